import PyProof.Rows.All
import Wide.All
import OpenK.AllK
import Wide.FinOn
import HandS.ForMost
import HandS.ForExc
import HandS.Wide
import HandS.IsInst
import HandS.Evl
import HandS.Defaults
import HandS.TupAny
import HandS.Zip
import HandS.Style
import HandS.ExcInit
import HandS.ExcField
import KE.KExcInit
import HandS.CallSlots
import HandS.ExcIs
import KE.KExcLine
import KE.KUnpackStar
import HandS.SortKw
import KE.KDictKeyed
import KE.KDictWalk
import HandS.DictComp
import KE.SortData
import KE.KDictSum
import HandS.Conv
import PyProof.Transfer
import HandS.Deep
import KE.GoesEnum
import KE.KExcIs
import KE.KIsAll
import KE.KUnpack
import HandS.IterVal
import HandS.TupSets
import HandS.More
import HandS.Text
import HandS.FStr
import PySem.Challenge.RW_umbrage_k19_lots_told
def Qt (p : Prop) : Prop := p
theorem qt_eq (p : Prop) (h : p) : Qt p = True := eq_true h
theorem qt_of {p : Prop} (h : Qt p) : p := h
set_option Elab.async false
set_option linter.all false
set_option maxRecDepth 100000
set_option maxHeartbeats 4000000
namespace U
open PySem PySem.W PyProof.Rows
set_option maxHeartbeats 0 in
open_top head_top for PySem.Challenge.rw_umbrage_k19_lots_told
end U
section
/-! The data layer: slots hold data, lists of one's own, or the bag of draws; readings evaluate to data. -/
namespace U
open PySem L2 Evl
noncomputable abbrev Fg := PySem.W.Frag
noncomputable abbrev Hp := L2.Hp
noncomputable abbrev St := L2.St
open Classical in
noncomputable def less (H : Hp) (Z : Addr → Prop) : Hp := fun a => if Z a then none else H a
theorem less_no {H : Hp} {Z : Addr → Prop} {a : Addr} (h : ¬ Z a) : less H Z a = H a := if_neg h
theorem less_yes {H : Hp} {Z : Addr → Prop} {a : Addr} (h : Z a) : less H Z a = none := if_pos h
theorem less_some {H : Hp} {Z : Addr → Prop} {a : Addr} {o : HO} (h : less H Z a = some o) : ¬ Z a ∧ H a = some o := by
  by_cases z : Z a
  · rw [less_yes z] at h; cases h
  · rw [less_no z] at h; exact ⟨z, h⟩
theorem less_of {H : Hp} {Z : Addr → Prop} {a : Addr} {o : HO} (z : ¬ Z a) (h : H a = some o) : less H Z a = some o := (less_no z).trans h
theorem less_ex {H : Hp} {Z : Addr → Prop} : Ex (less H Z) H := fun _ _ h => (less_some h).2
theorem less_mono {H H' : Hp} {Z : Addr → Prop} (e : Ex H H') : Ex (less H Z) (less H' Z) := fun a o h => less_of (less_some h).1 (e a o (less_some h).2)
theorem less_sub {H : Hp} {Z Z' : Addr → Prop} (e : ∀ a, Z' a → Z a) : Ex (less H Z) (less H Z') := fun a o h => less_of (fun z => (less_some h).1 (e a z)) (less_some h).2
theorem less_but {H H' : Hp} {Z : Addr → Prop} (e : ∀ a o, H a = some o → ¬ Z a → H' a = some o) : Ex (less H Z) (less H' Z) := fun a o h => less_of (less_some h).1 (e a o (less_some h).2 (less_some h).1)

mutual
theorem dp_mono {K : Fg} {H H' : Hp} (e : Ex H H') : ∀ {d : PyData} {v : V}, Dp K H v d → Dp K H' v d
  | _, _, .non => .non
  | _, _, .bl b => .bl b
  | _, _, .int i => .int i
  | _, _, .str x => .str x
  | _, _, .lst h t => .lst (ex_l e h) (dpa_mono e t)
  | _, _, .tup h t => .tup (ex_t e h) (dpa_mono e t)
theorem dpa_mono {K : Fg} {H H' : Hp} (e : Ex H H') : ∀ {ds : List PyData} {vs : List V}, DpAll K H vs ds → DpAll K H' vs ds
  | _, _, .nil => .nil
  | _, _, .cons h t => .cons (dp_mono e h) (dpa_mono e t)
end
theorem dpa_len {K : Fg} {H : Hp} : ∀ {ds : List PyData} {vs : List V}, DpAll K H vs ds → vs.length = ds.length
  | _, _, .nil => rfl
  | _, _, .cons _ t => congrArg (· + 1) (dpa_len t)
theorem dpa_get {K : Fg} {H : Hp} : ∀ {ds : List PyData} {vs : List V} {i : Nat} {d : PyData}, DpAll K H vs ds → ds[i]? = some d → ∃ v, vs[i]? = some v ∧ Dp K H v d
  | _, _, _, _, .nil, e => by simp at e
  | _, _, 0, _, .cons h _, e => by
    have e := Option.some.inj e
    subst e
    exact ⟨_, rfl, h⟩
  | _, _, i + 1, _, .cons _ t, e => dpa_get (i := i) t e
theorem dpa_at {K : Fg} {H : Hp} : ∀ {ds : List PyData} {vs : List V} {i : Nat} {v : V}, DpAll K H vs ds → vs[i]? = some v → ∃ d, ds[i]? = some d ∧ Dp K H v d
  | _, _, _, _, .nil, e => by simp at e
  | _, _, 0, _, .cons h _, e => by
    have e := Option.some.inj e
    subst e
    exact ⟨_, rfl, h⟩
  | _, _, i + 1, _, .cons _ t, e => dpa_at (i := i) t e
theorem dpa_app {K : Fg} {H : Hp} : ∀ {ds es : List PyData} {vs us : List V}, DpAll K H vs ds → DpAll K H us es → DpAll K H (vs ++ us) (ds ++ es)
  | _, _, _, _, .nil, h => h
  | _, _, _, _, .cons h t, u => .cons h (dpa_app t u)

/-- the bag of draws: its cells, how often it was drawn, its number -/
structure Bag where
  cs : List Int
  i : Int
  j : Int
noncomputable def Bag.ok (s : Bag) : Prop := s.cs.length ≤ 63 ∧ 0 ≤ s.j ∧ s.j < 2147483647
noncomputable def BagAt (H : Hp) (B : Option (Addr × Addr)) (s : Bag) : Prop := match B with
  | some (b, c) => H b = some (.lst [.ref c, .int s.i, .int s.j]) ∧ H c = some (.lst (s.cs.map V.int)) ∧ s.ok
  | none => True
noncomputable def InB (B : Option (Addr × Addr)) (a : Addr) : Prop := ∃ b c, B = some (b, c) ∧ (a = b ∨ a = c)
inductive En where
  | un
  | d (x : PyData)
  | own (xs : List PyData)
  | bag
noncomputable abbrev Gam := List En
noncomputable def Zs (W : Addr → Prop) (B : Option (Addr × Addr)) (ad : Nat → Addr) (G : Gam) : Addr → Prop := fun a => W a ∨ (∃ i xs, G[i]? = some (.own xs) ∧ a = ad i) ∨ InB B a
noncomputable def Slot (K : Fg) (B : Option (Addr × Addr)) (ad : Nat → Addr) (H : Hp) (Z : Addr → Prop) (i : Nat) (o : Option V) : En → Prop
  | .un => True
  | .d x => ∃ v, o = some v ∧ Dp K (less H Z) v x
  | .own xs => o = some (.ref (ad i)) ∧ ∃ vs, H (ad i) = some (.lst vs) ∧ DpAll K (less H Z) vs xs
  | .bag => ∃ b c, B = some (b, c) ∧ o = some (.ref b)
/-- the state of a def's frame: slots, heap, bag, against the heap H0 at its entry -/
structure Sta (K : Fg) (W : Addr → Prop) (B : Option (Addr × Addr)) (ad : Nat → Addr) (H0 H : Hp) (σ : St) (G : Gam) (s : Bag) : Prop where
  len : σ.length = G.length
  at_ : ∀ i e, G[i]? = some e → ∃ o, σ[i]? = some o ∧ Slot K B ad H (Zs W B ad G) i o e
  inj : ∀ i j xs ys, G[i]? = some (.own xs) → G[j]? = some (.own ys) → ad i = ad j → i = j
  sep : ∀ i xs, G[i]? = some (.own xs) → H0 (ad i) = none ∧ ¬ InB B (ad i) ∧ ¬ W (ad i)
  base : ∀ a o, H0 a = some o → ¬ InB B a → H a = some o
  bag : BagAt H B s
  wd : ∀ a, W a → ∃ o, H a = some o
noncomputable def swp (ad : Nat → Addr) (i : Nat) (p : Addr) : Nat → Addr := fun j => if j = i then p else ad j
theorem swp_same {ad : Nat → Addr} {i : Nat} {p : Addr} : swp ad i p i = p := if_pos rfl
theorem swp_ne {ad : Nat → Addr} {i j : Nat} {p : Addr} (h : i ≠ j) : swp ad i p j = ad j := if_neg fun z => h z.symm
section
variable {K : Fg} {W : Addr → Prop} {B : Option (Addr × Addr)} {ad : Nat → Addr} {H0 H H2 : Hp} {σ : St} {G G' : Gam} {s s' : Bag}
theorem Slot.mono {Z Z' : Addr → Prop} {i : Nat} {o : Option V} {e : En} (h : Slot K B ad H Z i o e) (x : Ex (less H Z) (less H2 Z')) (y : ∀ xs vs, e = .own xs → H (ad i) = some (.lst vs) → H2 (ad i) = some (.lst vs)) : Slot K B ad H2 Z' i o e := by
  cases e with
  | un => trivial
  | d d => obtain ⟨v, e, h⟩ := h; exact ⟨v, e, dp_mono x h⟩
  | own xs => obtain ⟨e, vs, h1, h2⟩ := h; exact ⟨e, vs, y xs vs rfl h1, dpa_mono x h2⟩
  | bag => exact h
theorem upd_there {H : Hp} {p a : Addr} {o u : HO} (h : H a = some o) : ∃ o', upd H p u a = some o' := by
  by_cases z : a = p
  · exact ⟨u, by rw [z]; exact upd_same⟩
  · exact ⟨o, by rw [upd_ne z]; exact h⟩
/-- everything stays -/
theorem Sta.ext (S : Sta K W B ad H0 H σ G s) (e : Ex H H2) : Sta K W B ad H0 H2 σ G s where
  len := S.len
  at_ := fun i en h => by
    obtain ⟨o, h1, h2⟩ := S.at_ i en h
    exact ⟨o, h1, h2.mono (less_mono e) fun _ _ _ q => e _ _ q⟩
  inj := S.inj
  sep := S.sep
  base := fun a o h n => e _ _ (S.base a o h n)
  bag := by
    have h := S.bag
    unfold BagAt at h ⊢
    split
    · exact ⟨e _ _ h.1, e _ _ h.2.1, h.2.2⟩
    · trivial
  wd := fun a z => by
    obtain ⟨o, h⟩ := S.wd a z
    exact ⟨o, e _ _ h⟩
/-- all but the bag stays -/
theorem Sta.drawn (S : Sta K W B ad H0 H σ G s) (e : ∀ a o, H a = some o → ¬ InB B a → H2 a = some o) (b : BagAt H2 B s') : Sta K W B ad H0 H2 σ G s' where
  len := S.len
  at_ := fun i en h => by
    obtain ⟨o, h1, h2⟩ := S.at_ i en h
    refine ⟨o, h1, h2.mono (less_but fun a o q z => e a o q fun y => z (.inr (.inr y))) fun xs vs q q2 => ?_⟩
    subst q
    exact e _ _ q2 (S.sep i xs h).2.1
  inj := S.inj
  sep := S.sep
  base := fun a o h n => e a o (S.base a o h n) n
  bag := b
  wd := fun a z => by
    by_cases hb : InB B a
    · obtain ⟨b1, c1, rfl, hb⟩ := hb
      rcases hb with rfl | rfl
      · exact ⟨_, b.1⟩
      · exact ⟨_, b.2.1⟩
    · obtain ⟨o, h⟩ := S.wd a z
      exact ⟨o, e _ _ h hb⟩
theorem Zs.set_of {i : Nat} {e : En} (he : ∀ xs, e ≠ .own xs) {a : Addr} (h : Zs W B ad (G.set i e) a) : Zs W B ad G a := qt_of (by simp (disch := with_unfolding_all
  rcases h with h | ⟨j, xs, h, r⟩ | h
  · exact .inl h
  · by_cases z : i = j
    · subst z
      by_cases l : i < G.length
      · rw [List.getElem?_set_self l] at h
        exact absurd (Option.some.inj h) (he xs)
      · rw [List.getElem?_eq_none (by rw [List.length_set]; omega)] at h; cases h
    · rw [List.getElem?_set_ne z] at h
      exact .inr (.inl ⟨j, xs, h, r⟩)
  · exact .inr (.inr h)
  ) only [↓qt_eq])
theorem get_set {α : Type} {l : List α} {i j : Nat} {x y : α} (h : (l.set i x)[j]? = some y) : (i = j ∧ i < l.length ∧ x = y) ∨ (i ≠ j ∧ l[j]? = some y) := qt_of (by simp (disch := with_unfolding_all
  by_cases z : i = j
  · subst z
    by_cases q : i < l.length
    · rw [List.getElem?_set_self q] at h
      exact .inl ⟨rfl, q, Option.some.inj h⟩
    · rw [List.getElem?_eq_none (by rw [List.length_set]; omega)] at h; cases h
  · rw [List.getElem?_set_ne z] at h
    exact .inr ⟨z, h⟩
  ) only [↓qt_eq])
/-- a slot gets a thing that is no list of one's own -/
theorem Sta.set (S : Sta K W B ad H0 H σ G s) {i : Nat} {e : En} {o : Option V} (he : ∀ xs, e ≠ .own xs) (h : Slot K B ad H (Zs W B ad G) i o e) : Sta K W B ad H0 H (σ.set i o) (G.set i e) s where
  len := by rw [List.length_set, List.length_set]; exact S.len
  at_ := fun j en g => by
    rcases get_set g with ⟨rfl, l, rfl⟩ | ⟨z, g⟩
    · refine ⟨o, List.getElem?_set_self (by rw [S.len]; exact l), h.mono (less_sub fun a q => Zs.set_of he q) fun _ _ _ q => q⟩
    · obtain ⟨o', h1, h2⟩ := S.at_ j en g
      exact ⟨o', by rw [List.getElem?_set_ne z]; exact h1, h2.mono (less_sub fun a q => Zs.set_of he q) fun _ _ _ q => q⟩
  inj := fun j k xs ys g g' q => by
    rcases get_set g with ⟨rfl, l, e⟩ | ⟨z, g⟩
    · exact absurd e (he xs)
    · rcases get_set g' with ⟨rfl, l, e⟩ | ⟨z', g'⟩
      · exact absurd e (he ys)
      · exact S.inj j k xs ys g g' q
  sep := fun j xs g => by
    rcases get_set g with ⟨rfl, l, e⟩ | ⟨z, g⟩
    · exact absurd e (he xs)
    · exact S.sep j xs g
  base := S.base
  bag := S.bag
  wd := S.wd
theorem Sta.setD (S : Sta K W B ad H0 H σ G s) {i : Nat} {v : V} {x : PyData} (h : Dp K (less H (Zs W B ad G)) v x) : Sta K W B ad H0 H (σ.set i (some v)) (G.set i (.d x)) s :=
  S.set (fun _ z => by cases z) ⟨v, rfl, h⟩
theorem Sta.fresh (S : Sta K W B ad H0 H σ G s) {p : Addr} (h : H p = none) : H0 p = none ∧ ¬ InB B p := qt_of (by simp (disch := with_unfolding_all
  have hB : ¬ InB B p := by
    rintro ⟨b, c, rfl, z⟩
    have q := S.bag
    unfold BagAt at q
    rcases z with rfl | rfl
    · rw [q.1] at h; cases h
    · rw [q.2.1] at h; cases h
  refine ⟨?_, hB⟩
  cases e : H0 p with
  | none => rfl
  | some o => rw [S.base p o e hB] at h; cases h
  ) only [↓qt_eq])
/-- a thing of another's, which is new to this def, is changed -/
theorem Sta.foreign (S : Sta K W B ad H0 H σ G s) {p : Addr} {o : HO} (hw : W p) (h0 : H0 p = none) (hB : ¬ InB B p) : Sta K W B ad H0 (upd H p o) σ G s ∧ less (upd H p o) (Zs W B ad G) = less H (Zs W B ad G) := qt_of (by simp (disch := with_unfolding_all
  have el : less (upd H p o) (Zs W B ad G) = less H (Zs W B ad G) := by
    funext a
    by_cases z : Zs W B ad G a
    · rw [less_yes z, less_yes z]
    · rw [less_no z, less_no z, upd_ne (fun e => z (.inl (by rw [e]; exact hw)))]
  refine ⟨⟨S.len, fun i e h => ?_, S.inj, S.sep, fun a u q n => ?_, ?_, fun a z => (S.wd a z).elim fun o q => upd_there q⟩, el⟩
  · obtain ⟨u, g1, g2⟩ := S.at_ i e h
    refine ⟨u, g1, g2.mono (by rw [el]; exact Ex.refl _) fun xs vs q q2 => ?_⟩
    subst q
    rw [upd_ne (fun z => (S.sep i xs h).2.2 (by rw [z]; exact hw))]; exact q2
  · rw [upd_ne (fun z => by rw [z, h0] at q; cases q)]; exact S.base a u q n
  · have hg := S.bag
    rcases B with _ | ⟨b, c⟩
    · trivial
    · have h : H b = _ ∧ _ := hg
      refine ⟨?_, ?_, h.2.2⟩
      · rw [upd_ne (fun z => hB ⟨b, c, rfl, .inl z.symm⟩)]; exact h.1
      · rw [upd_ne (fun z => hB ⟨b, c, rfl, .inr z.symm⟩)]; exact h.2.1
  ) only [↓qt_eq])
/-- a new thing is for a while another's -/
theorem Sta.lend (S : Sta K W B ad H0 H σ G s) {p : Addr} {o : HO} (hp : H p = none) : Sta K (fun a => W a ∨ a = p) B ad H0 (upd H p o) σ G s ∧ less (upd H p o) (Zs (fun a => W a ∨ a = p) B ad G) = less H (Zs W B ad G) := qt_of (by simp (disch := with_unfolding_all
  have np : ¬ Zs W B ad G p := by
    rintro (z | ⟨i, xs, g, r⟩ | z)
    · obtain ⟨o, z⟩ := S.wd _ z
      rw [hp] at z; cases z
    · obtain ⟨_, _, _, vs, h1, _⟩ := S.at_ i _ g
      rw [← r, hp] at h1; cases h1
    · obtain ⟨b, c, rfl, z⟩ := z
      rcases z with rfl | rfl
      · rw [S.bag.1] at hp; cases hp
      · rw [S.bag.2.1] at hp; cases hp
  have zz : ∀ a, Zs (fun a => W a ∨ a = p) B ad G a ↔ Zs W B ad G a ∨ a = p := fun a => by
    constructor
    · rintro ((z | z) | z | z)
      · exact .inl (.inl z)
      · exact .inr z
      · exact .inl (.inr (.inl z))
      · exact .inl (.inr (.inr z))
    · rintro ((z | z | z) | z)
      · exact .inl (.inl z)
      · exact .inr (.inl z)
      · exact .inr (.inr z)
      · exact .inl (.inr z)
  have el : less (upd H p o) (Zs (fun a => W a ∨ a = p) B ad G) = less H (Zs W B ad G) := by
    funext a
    by_cases e : a = p
    · rw [less_yes ((zz a).mpr (.inr e)), e, less_no np, hp]
    · by_cases z : Zs W B ad G a
      · rw [less_yes z, less_yes ((zz a).mpr (.inl z))]
      · rw [less_no z, less_no (fun y => ((zz a).mp y).elim z e), upd_ne e]
  have ex : Ex H (upd H p o) := Ex.new hp
  have S' := S.ext ex
  refine ⟨⟨S.len, fun i e h => ?_, S.inj, fun i xs h => ⟨(S.sep i xs h).1, (S.sep i xs h).2.1, fun z => z.elim (S.sep i xs h).2.2 fun z => np (by rw [← z]; exact .inr (.inl ⟨i, xs, h, rfl⟩))⟩, S'.base, S'.bag, fun a z => z.elim (fun z => S'.wd a z) fun z => ⟨o, by rw [z]; exact upd_same⟩⟩, el⟩
  obtain ⟨u, g1, g2⟩ := S.at_ i e h
  exact ⟨u, g1, g2.mono (by rw [el]; exact Ex.refl _) fun xs vs q q2 => ex _ _ q2⟩
  ) only [↓qt_eq])
/-- .. and is given back -/
theorem Sta.back {p : Addr} (S : Sta K (fun a => W a ∨ a = p) B ad H0 H σ G s) : Sta K W B ad H0 H σ G s ∧ Ex (less H (Zs (fun a => W a ∨ a = p) B ad G)) (less H (Zs W B ad G)) := qt_of (by simp (disch := with_unfolding_all
  have ex : Ex (less H (Zs (fun a => W a ∨ a = p) B ad G)) (less H (Zs W B ad G)) := less_sub fun a z => z.elim (fun z => .inl (.inl z)) .inr
  refine ⟨⟨S.len, fun i e h => ?_, S.inj, fun i xs h => ⟨(S.sep i xs h).1, (S.sep i xs h).2.1, fun z => (S.sep i xs h).2.2 (.inl z)⟩, S.base, S.bag, fun a z => S.wd a (.inl z)⟩, ex⟩
  obtain ⟨u, g1, g2⟩ := S.at_ i e h
  exact ⟨u, g1, g2.mono ex fun _ _ _ q => q⟩
  ) only [↓qt_eq])
end
end U

end
section
namespace U
open PySem L2 Evl
/-- all but the bag stays -/
noncomputable def Xb (B : Option (Addr × Addr)) (H H2 : Hp) : Prop := ∀ a o, H a = some o → ¬ InB B a → H2 a = some o
theorem Xb.refl {B : Option (Addr × Addr)} {H : Hp} : Xb B H H := fun _ _ h _ => h
theorem Xb.trans {B : Option (Addr × Addr)} {H H1 H2 : Hp} (a : Xb B H H1) (b : Xb B H1 H2) : Xb B H H2 := fun p o h n => b p o (a p o h n) n
theorem Xb.l {B : Option (Addr × Addr)} {H H2 : Hp} (a : Xb B H H2) {W : Addr → Prop} {ad : Nat → Addr} {G : Gam} : Ex (less H (Zs W B ad G)) (less H2 (Zs W B ad G)) := less_but fun p o h n => a p o h fun z => n (.inr (.inr z))
theorem Xb.of {B : Option (Addr × Addr)} {H H2 : Hp} (e : Ex H H2) : Xb B H H2 := fun p o h _ => e p o h
/-! ### what a reading evaluates to -/
noncomputable def EvG (K : Fg) (te : TE) (G : Gam) (s : Bag) (x : PyData) (s' : Bag) : Prop :=
  ∀ W B ad H0 H σ, Sta K W B ad H0 H σ G s → ∀ Q : VK, (∀ v H2, Sta K W B ad H0 H2 σ G s' → Xb B H H2 → Dp K (less H2 (Zs W B ad G)) v x → Q v H2) → te σ H Q
noncomputable def EvT (K : Fg) (tt : TT) (G : Gam) (s : Bag) (b : Bool) (s' : Bag) : Prop :=
  ∀ W B ad H0 H σ, Sta K W B ad H0 H σ G s → ∀ Q : Bool → Hp → Prop, (∀ H2, Sta K W B ad H0 H2 σ G s' → Xb B H H2 → Q b H2) → tt σ H Q
noncomputable def EvA (K : Fg) (ta : TA) (G : Gam) (s : Bag) (xs : List PyData) (s' : Bag) : Prop :=
  ∀ W B ad H0 H σ, Sta K W B ad H0 H σ G s → ∀ Q : List V → Hp → Prop, (∀ vs H2, Sta K W B ad H0 H2 σ G s' → Xb B H H2 → DpAll K (less H2 (Zs W B ad G)) vs xs → Q vs H2) → ta σ H Q
/-- a new list as a value of its own (not yet data) is not spoken of: lists are data once made -/
inductive Out where
  | nx (G : Gam) (s : Bag)
  | rt (x : PyData) (s : Bag)
  | bk (G : Gam) (s : Bag)
  | ct (G : Gam) (s : Bag)
noncomputable def Post (K : Fg) (W : Addr → Prop) (B : Option (Addr × Addr)) (H0 M : Hp) (D : Ends) : Out → Prop
  | .nx G s => ∀ ad H σ, Sta K W B ad H0 H σ G s → Ex M (less H (Zs W B ad G)) → D.nx σ H
  | .rt x s => ∀ v H, (∀ a o, H0 a = some o → ¬ InB B a → H a = some o) → BagAt H B s → Dp K (less H fun a => W a ∨ InB B a) v x → D.rt v H
  | .bk G s => ∀ ad H σ, Sta K W B ad H0 H σ G s → Ex M (less H (Zs W B ad G)) → D.bk σ H
  | .ct G s => ∀ ad H σ, Sta K W B ad H0 H σ G s → Ex M (less H (Zs W B ad G)) → D.ct σ H
noncomputable def SG (K : Fg) (ts : TS) (G : Gam) (s : Bag) (o : Out) : Prop :=
  ∀ W B ad H0 H σ (D : Ends), Sta K W B ad H0 H σ G s → Post K W B H0 (less H (Zs W B ad G)) D o → ts D σ H

section
variable {K : Fg} {G G1 G2 : Gam} {s s1 s2 s3 s' : Bag} {ta tb tc te : TE} {t u : TT} {x y z : PyData}
/-! ### values -/
theorem ev_is {x'} (h : EvG K te G s x s') (e : x = x') : EvG K te G s x' s' := e ▸ h
theorem et_is {b b' : Bool} (h : EvT K t G s b s') (e : b = b') : EvT K t G s b' s' := e ▸ h
theorem ev_var {i : Nat} (h : G[i]? = some (.d x)) : EvG K (tVar i) G s x s := fun W B ad H0 H σ S Q q => by
  obtain ⟨o, h1, v, rfl, h2⟩ := S.at_ i _ h
  exact ⟨v, h1, q v H S (Xb.refl) h2⟩
theorem ev_int {i : Int} : EvG K (tC (.int i)) G s (.int i) s := fun W B ad H0 H σ S Q q => q _ H S (Xb.refl) (.int i)
theorem ev_bl {b : Bool} : EvG K (tC (.bl b)) G s (.bool b) s := fun W B ad H0 H σ S Q q => q _ H S (Xb.refl) (.bl b)
/-! ### argument lists and displays -/
theorem ea_nil : EvA K tNil G s [] s := fun W B ad H0 H σ S Q q => q _ H S (Xb.refl) .nil
theorem ea_cons {tr : TA} {xs : List PyData} (h : EvG K ta G s x s1) (hr : EvA K tr G s1 xs s2) : EvA K (tCons ta tr) G s (x :: xs) s2 := fun W B ad H0 H σ S Q q =>
  h W B ad H0 H σ S _ fun v H1 S1 e1 d1 => hr W B ad H0 H1 σ S1 _ fun vs H2 S2 e2 d2 => q _ H2 S2 (e1.trans e2) (.cons (dp_mono e2.l d1) d2)
theorem new_ex {W : Addr → Prop} {B : Option (Addr × Addr)} {ad : Nat → Addr} {H0 H : Hp} {σ : St} (S : Sta K W B ad H0 H σ G s) {p : Addr} {o : HO} (h : H p = none) :
    Sta K W B ad H0 (upd H p o) σ G s ∧ Xb B H (upd H p o) ∧ less (upd H p o) (Zs W B ad G) p = some o := qt_of (by simp (disch := with_unfolding_all
  have e : Ex H (upd H p o) := Ex.new h
  refine ⟨S.ext e, .of e, less_of ?_ upd_same⟩
  rintro (z | ⟨i, xs, g, r⟩ | z)
  · obtain ⟨o, z⟩ := S.wd _ z
    rw [h] at z; cases z
  · obtain ⟨_, _, _, vs, h1, _⟩ := S.at_ i _ g
    rw [← r, h] at h1; cases h1
  · exact (S.fresh h).2 z
  ) only [↓qt_eq])
theorem sz_line {n : Nat} (h : n ≤ 16000000) : n ≤ sizeLine := Nat.le_trans h (by decide)
theorem ev_tup {ta : TA} {xs : List PyData} (h : EvA K ta G s xs s') (hl : xs.length ≤ 16000000) : EvG K (tTup ta) G s (.tuple xs) s' := fun W B ad H0 H σ S Q q =>
  h W B ad H0 H σ S _ fun vs H1 S1 e1 d1 => ⟨by rw [dpa_len d1]; exact sz_line hl, fun p hp => by
    obtain ⟨S2, e2, g⟩ := new_ex (o := .tup vs) S1 hp
    exact q _ _ S2 (e1.trans e2) (.tup (st_of g) (dpa_mono e2.l d1))⟩
theorem ev_lst {ta : TA} {xs : List PyData} (h : EvA K ta G s xs s') (hl : xs.length ≤ 16000000) : EvG K (tLst ta) G s (.list xs) s' := fun W B ad H0 H σ S Q q =>
  h W B ad H0 H σ S _ fun vs H1 S1 e1 d1 => ⟨by rw [dpa_len d1]; exact sz_line hl, fun p hp => by
    obtain ⟨S2, e2, g⟩ := new_ex (o := .lst vs) S1 hp
    exact q _ _ S2 (e1.trans e2) (.lst (sq_of g) (dpa_mono e2.l d1))⟩
/-! ### operators -/
theorem ev_I0 {g : Int → Int → V} {f : Int → Int → PyData} {i j : Int} (ha : EvG K ta G s (.int i) s1) (hb : EvG K tb G s1 (.int j) s2) (hg : ∀ H, Dp K H (g i j) (f i j)) : EvG K (tOp (rI0 g) ta tb) G s (f i j) s2 := fun W B ad H0 H σ S Q q =>
  ha W B ad H0 H σ S _ fun v H1 S1 e1 d1 => hb W B ad H0 H1 σ S1 _ fun w H2 S2 e2 d2 => by
    cases d1; cases d2
    exact ⟨i, j, rfl, rfl, q _ H2 S2 (e1.trans e2) (hg _)⟩
theorem ev_I {C : Int → Int → Prop} {g : Int → Int → V} {f : Int → Int → PyData} {i j : Int} (ha : EvG K ta G s (.int i) s1) (hb : EvG K tb G s1 (.int j) s2) (hc : C i j) (hg : ∀ H, Dp K H (g i j) (f i j)) : EvG K (tOp (rI C g) ta tb) G s (f i j) s2 := fun W B ad H0 H σ S Q q =>
  ha W B ad H0 H σ S _ fun v H1 S1 e1 d1 => hb W B ad H0 H1 σ S1 _ fun w H2 S2 e2 d2 => by
    cases d1; cases d2
    exact ⟨i, j, rfl, rfl, hc, q _ H2 S2 (e1.trans e2) (hg _)⟩
theorem ev_add {i j : Int} (ha : EvG K ta G s (.int i) s1) (hb : EvG K tb G s1 (.int j) s2) : EvG K (tOp (rI0 fun i j => .int (i + j)) ta tb) G s (.int (i + j)) s2 := ev_I0 (f := fun i j => .int (i + j)) ha hb fun _ => .int _
theorem ev_sub {i j : Int} (ha : EvG K ta G s (.int i) s1) (hb : EvG K tb G s1 (.int j) s2) : EvG K (tOp (rI0 fun i j => .int (i - j)) ta tb) G s (.int (i - j)) s2 := ev_I0 (f := fun i j => .int (i - j)) ha hb fun _ => .int _
theorem ev_mul {i j : Int} (ha : EvG K ta G s (.int i) s1) (hb : EvG K tb G s1 (.int j) s2) (hc : CMulW i j) : EvG K (tOp (rI CMulW fun i j => .int (i * j)) ta tb) G s (.int (i * j)) s2 := ev_I (f := fun i j => .int (i * j)) ha hb hc fun _ => .int _
/-- // by any divisor but 0, of less than 9000 bits -/
noncomputable def CDvX (_ j : Int) : Prop := j ≠ 0 ∧ j.natAbs.log2 < 9000
theorem op_fdivX {X : Cx} : OpR X (binaryOp .FloorDiv) (rI CDvX fun i j => .int (i.fdiv j)) := opI fun i j _ _ _ _ _ hc q => PyProof.Rows.floordiv_int hc.1 q (.inl (PyProof.noPylong_of_log2 hc.2))
theorem ev_fdiv {i j : Int} (ha : EvG K ta G s (.int i) s1) (hb : EvG K tb G s1 (.int j) s2) (hc : CDvX i j) : EvG K (tOp (rI CDvX fun i j => .int (i.fdiv j)) ta tb) G s (.int (i.fdiv j)) s2 := ev_I (f := fun i j => .int (i.fdiv j)) ha hb hc fun _ => .int _
noncomputable def CNz (_ j : Int) : Prop := j ≠ 0
theorem op_modX {X : Cx} : OpR X (binaryOp .Mod) (rI CNz fun i j => .int (i.fmod j)) := op_modN
theorem ev_mod {i j : Int} (ha : EvG K ta G s (.int i) s1) (hb : EvG K tb G s1 (.int j) s2) (hc : CNz i j) : EvG K (tOp (rI CNz fun i j => .int (i.fmod j)) ta tb) G s (.int (i.fmod j)) s2 := ev_I (f := fun i j => .int (i.fmod j)) ha hb hc fun _ => .int _
theorem ev_lt {i j : Int} (ha : EvG K ta G s (.int i) s1) (hb : EvG K tb G s1 (.int j) s2) : EvG K (tOp (rI0 fun i j => .bl (decide (i < j))) ta tb) G s (.bool (decide (i < j))) s2 := ev_I0 (f := fun i j => .bool (decide (i < j))) ha hb fun _ => .bl _
theorem ev_gt {i j : Int} (ha : EvG K ta G s (.int i) s1) (hb : EvG K tb G s1 (.int j) s2) : EvG K (tOp (rI0 fun i j => .bl (decide (j < i))) ta tb) G s (.bool (decide (j < i))) s2 := ev_I0 (f := fun i j => .bool (decide (j < i))) ha hb fun _ => .bl _
theorem ev_eqI {i j : Int} (ha : EvG K ta G s (.int i) s1) (hb : EvG K tb G s1 (.int j) s2) : EvG K (tOp rEq ta tb) G s (.bool (decide (i = j))) s2 := fun W B ad H0 H σ S Q q =>
  ha W B ad H0 H σ S _ fun v H1 S1 e1 d1 => hb W B ad H0 H1 σ S1 _ fun w H2 S2 e2 d2 => by
    cases d1; cases d2
    have e : decide (V.int i = V.int j) = decide (i = j) := by simp
    exact ⟨rfl, by rw [e]; exact q _ H2 S2 (e1.trans e2) (.bl _)⟩
theorem ev_neI {i j : Int} (ha : EvG K ta G s (.int i) s1) (hb : EvG K tb G s1 (.int j) s2) : EvG K (tOp rNe ta tb) G s (.bool (!decide (i = j))) s2 := fun W B ad H0 H σ S Q q =>
  ha W B ad H0 H σ S _ fun v H1 S1 e1 d1 => hb W B ad H0 H1 σ S1 _ fun w H2 S2 e2 d2 => by
    cases d1; cases d2
    have e : decide (V.int i = V.int j) = decide (i = j) := by simp
    exact ⟨rfl, by rw [e]; exact q _ H2 S2 (e1.trans e2) (.bl _)⟩
theorem ev_eqS {i j : Str} (ha : EvG K ta G s (.str i) s1) (hb : EvG K tb G s1 (.str j) s2) : EvG K (tOp rEq ta tb) G s (.bool (decide (i = j))) s2 := fun W B ad H0 H σ S Q q =>
  ha W B ad H0 H σ S _ fun v H1 S1 e1 d1 => hb W B ad H0 H1 σ S1 _ fun w H2 S2 e2 d2 => by
    cases d1; cases d2
    have e : decide (V.str i = V.str j) = decide (i = j) := by simp
    exact ⟨rfl, by rw [e]; exact q _ H2 S2 (e1.trans e2) (.bl _)⟩
theorem ev_eqB {i j : Bool} (ha : EvG K ta G s (.bool i) s1) (hb : EvG K tb G s1 (.bool j) s2) : EvG K (tOp rEq ta tb) G s (.bool (decide (i = j))) s2 := fun W B ad H0 H σ S Q q =>
  ha W B ad H0 H σ S _ fun v H1 S1 e1 d1 => hb W B ad H0 H1 σ S1 _ fun w H2 S2 e2 d2 => by
    cases d1; cases d2
    have e : decide (V.bl i = V.bl j) = decide (i = j) := by simp
    exact ⟨rfl, by rw [e]; exact q _ H2 S2 (e1.trans e2) (.bl _)⟩
theorem ev_neB {i j : Bool} (ha : EvG K ta G s (.bool i) s1) (hb : EvG K tb G s1 (.bool j) s2) : EvG K (tOp rNe ta tb) G s (.bool (!decide (i = j))) s2 := fun W B ad H0 H σ S Q q =>
  ha W B ad H0 H σ S _ fun v H1 S1 e1 d1 => hb W B ad H0 H1 σ S1 _ fun w H2 S2 e2 d2 => by
    cases d1; cases d2
    have e : decide (V.bl i = V.bl j) = decide (i = j) := by simp
    exact ⟨rfl, by rw [e]; exact q _ H2 S2 (e1.trans e2) (.bl _)⟩
theorem ev_neg {i : Int} (ha : EvG K ta G s (.int i) s') : EvG K (tUn (rU fun i => .int (-i)) ta) G s (.int (-i)) s' := fun W B ad H0 H σ S Q q =>
  ha W B ad H0 H σ S _ fun v H1 S1 e1 d1 => by
    cases d1
    exact ⟨i, rfl, q _ H1 S1 e1 (.int _)⟩
noncomputable def isNoneD : PyData → Bool
  | .none => true
  | _ => false
theorem dp_none {K : Fg} {H : Hp} {v : V} {x : PyData} (h : Dp K H v x) : decide (v = V.non) = isNoneD x := by
  cases h <;> simp [isNoneD]
theorem ev_isN (ha : EvG K ta G s x s') : EvG K (tOp (fun x y H Q => y = .non ∧ Q (.bl (decide (x = .non))) H) ta (tC .non)) G s (.bool (isNoneD x)) s' := fun W B ad H0 H σ S Q q =>
  ha W B ad H0 H σ S _ fun v H1 S1 e1 d1 => ⟨rfl, by rw [dp_none d1]; exact q _ H1 S1 e1 (.bl _)⟩
/-! ### items -/
theorem dpa_atI {K : Fg} {H : Hp} {ds : List PyData} {vs : List V} {i : Int} {d : PyData} (h : DpAll K H vs ds) (e : atI ds i = some d) : ∃ v, atI vs i = some v ∧ Dp K H v d := by
  unfold atI at e ⊢
  rw [dpa_len h]
  cases q : ixN ds.length i with
  | none => rw [q] at e; cases e
  | some j =>
    rw [q] at e
    exact dpa_get h e
theorem ev_ixT {xs : List PyData} {i : Int} (ha : EvG K ta G s (.tuple xs) s1) (hb : EvG K tb G s1 (.int i) s2) (he : atI xs i = some x) : EvG K (tOp (rIx K) ta tb) G s x s2 := fun W B ad H0 H σ S Q q =>
  ha W B ad H0 H σ S _ fun v H1 S1 e1 d1 => hb W B ad H0 H1 σ S1 _ fun w H2 S2 e2 d2 => by
    cases d2
    cases dp_mono e2.l d1 with
    | tup h t =>
      obtain ⟨v, g1, g2⟩ := dpa_atI t he
      exact .inr (.inl ⟨_, _, i, v, rfl, rfl, ex_t less_ex h, g1, q _ H2 S2 (e1.trans e2) g2⟩)
theorem ev_ixL {xs : List PyData} {i : Int} (ha : EvG K ta G s (.list xs) s1) (hb : EvG K tb G s1 (.int i) s2) (he : atI xs i = some x) : EvG K (tOp (rIx K) ta tb) G s x s2 := fun W B ad H0 H σ S Q q =>
  ha W B ad H0 H σ S _ fun v H1 S1 e1 d1 => hb W B ad H0 H1 σ S1 _ fun w H2 S2 e2 d2 => by
    cases d2
    cases dp_mono e2.l d1 with
    | lst h t =>
      obtain ⟨v, g1, g2⟩ := dpa_atI t he
      exact .inl ⟨_, _, i, v, rfl, rfl, ex_l less_ex h, g1, q _ H2 S2 (e1.trans e2) g2⟩
/-! ### tests -/
theorem et_test {b : Bool} (h : EvG K te G s (.bool b) s') : EvT K (tTest te) G s b s' := fun W B ad H0 H σ S Q q => h W B ad H0 H σ S _ fun v H1 S1 e1 d1 => by
  cases d1
  exact ⟨b, rfl, q H1 S1 e1⟩
theorem et_B {b : Bool} (h : EvG K te G s (.bool b) s') : EvT K (tB te) G s b s' := fun W B ad H0 H σ S Q q => h W B ad H0 H σ S _ fun v H1 S1 e1 d1 => by
  cases d1
  exact ⟨b, rfl, q H1 S1 e1⟩
theorem et_not {b : Bool} (h : EvT K t G s b s') : EvT K (tNot t) G s (!b) s' := fun W B ad H0 H σ S Q q => h W B ad H0 H σ S _ q
theorem et_orF {b : Bool} (h : EvT K t G s false s1) (h2 : EvT K u G s1 b s2) : EvT K (tOr t u) G s b s2 := fun W B ad H0 H σ S Q q => h W B ad H0 H σ S _ fun H1 S1 e1 => iteF (h2 W B ad H0 H1 σ S1 _ fun H2 S2 e2 => q H2 S2 (e1.trans e2))
theorem et_orT (h : EvT K t G s true s1) : EvT K (tOr t u) G s true s1 := fun W B ad H0 H σ S Q q => h W B ad H0 H σ S _ fun H1 S1 e1 => iteT (q H1 S1 e1)
theorem et_or {a b : Bool} (h : EvT K t G s a s) (h2 : a = false → EvT K u G s b s) : EvT K (tOr t u) G s (a || b) s := by
  cases a with
  | true => exact et_orT h
  | false => exact et_orF h (h2 rfl)
theorem ev_andT (h : EvG K ta G s (.bool true) s1) (h2 : EvG K tb G s1 x s2) : EvG K (tAndV ta tb) G s x s2 := fun W B ad H0 H σ S Q q => h W B ad H0 H σ S _ fun v H1 S1 e1 d1 => by
  cases d1
  exact ⟨true, rfl, iteT (h2 W B ad H0 H1 σ S1 _ fun v H2 S2 e2 d2 => q v H2 S2 (e1.trans e2) d2)⟩
theorem ev_andF (h : EvG K ta G s (.bool false) s1) : EvG K (tAndV ta tb) G s (.bool false) s1 := fun W B ad H0 H σ S Q q => h W B ad H0 H σ S _ fun v H1 S1 e1 d1 => by
  cases d1
  exact ⟨false, rfl, iteF (q _ H1 S1 e1 (.bl _))⟩
theorem ev_and {a b : Bool} (h : EvG K ta G s (.bool a) s) (h2 : a = true → EvG K tb G s (.bool b) s) : EvG K (tAndV ta tb) G s (.bool (a && b)) s := by
  cases a with
  | true => exact ev_andT h (h2 rfl)
  | false => exact ev_andF h
theorem ev_not {a : Bool} (h : EvG K ta G s (.bool a) s') : EvG K (tNotV ta) G s (.bool (!a)) s' := fun W B ad H0 H σ S Q q => h W B ad H0 H σ S _ fun v H1 S1 e1 d1 => by
  cases d1
  exact ⟨a, rfl, q _ H1 S1 e1 (.bl _)⟩
/-! ### what a def promises: of data; of the bag and data -/
noncomputable def spP (K : Fg) (P : List PyData → PyData → Prop) : Sp := fun vs H Q _ => ∃ (W : Addr → Prop) (ds : List PyData) (r : PyData), (∀ a, W a → ∃ o, H a = some o) ∧ DpAll K (less H W) vs ds ∧ P ds r ∧ ∀ v H', Ex H H' → Dp K (less H' W) v r → Q v H'
noncomputable def spB (K : Fg) (P : Bag → List PyData → PyData → Bag → Prop) : Sp := fun vs H Q _ => ∃ (W : Addr → Prop) (b c : Addr) (us : List V) (s : Bag) (ds : List PyData) (r : PyData) (s' : Bag), (∀ a, W a → ∃ o, H a = some o) ∧ vs = .ref b :: us ∧ BagAt H (some (b, c)) s ∧
  DpAll K (less H fun a => W a ∨ InB (some (b, c)) a) us ds ∧ P s ds r s' ∧ ∀ v H', (∀ a o, H a = some o → ¬ InB (some (b, c)) a → H' a = some o) → BagAt H' (some (b, c)) s' → Dp K (less H' fun a => W a ∨ InB (some (b, c)) a) v r → Q v H'
theorem bag_there {H : Hp} {B : Option (Addr × Addr)} {a : Addr} (h : BagAt H B s) (z : InB B a) : ∃ o, H a = some o := by
  obtain ⟨b, c, rfl, z⟩ := z
  rcases z with rfl | rfl
  · exact ⟨_, h.1⟩
  · exact ⟨_, h.2.1⟩
theorem Sta.there {W : Addr → Prop} {B : Option (Addr × Addr)} {ad : Nat → Addr} {H0 H : Hp} {σ : St} (S : Sta K W B ad H0 H σ G s) (a : Addr) (z : Zs W B ad G a) : ∃ o, H a = some o := by
  by_cases hb : InB B a
  · exact bag_there S.bag hb
  rcases z with z | ⟨i, xs, g, rfl⟩ | z
  · exact S.wd _ z
  · obtain ⟨_, _, _, vs, h1, _⟩ := S.at_ i _ g
    exact ⟨_, h1⟩
  · exact absurd z hb
theorem ev_call {P : List PyData → PyData → Prop} {ta : TA} {ds : List PyData} {dvs : List V} {des : List PyData} {E : XK} (h : EvA K ta G s ds s') (hd : ∀ H, DpAll K H dvs des) (hp : P (ds ++ des) x) : EvG K (tCall (spP K P) dvs E ta) G s x s' := fun W B ad H0 H σ S Q q =>
  h W B ad H0 H σ S _ fun vs H1 S1 e1 d1 => ⟨Zs W B ad G, ds ++ des, x, S1.there, dpa_app d1 (hd _), hp, fun v H' e d => q v H' (S1.ext e) (e1.trans (.of e)) d⟩
theorem ev_callB {P : Bag → List PyData → PyData → Bag → Prop} {tr : TA} {i : Nat} {ds : List PyData} {E : XK} (hi : G[i]? = some .bag) (h : EvA K tr G s ds s1) (hp : P s1 ds x s') : EvG K (tCall (spB K P) [] E (tCons (tVar i) tr)) G s x s' := fun W B ad H0 H σ S Q q => by
  obtain ⟨o, g1, b, c, rfl, rfl⟩ := S.at_ i _ hi
  refine ⟨_, g1, h W _ ad H0 H σ S _ fun vs H1 S1 e1 d1 => ?_⟩
  have zz : ∀ a, (((fun a => W a ∨ ∃ i xs, G[i]? = some (En.own xs) ∧ a = ad i) a) ∨ InB (some (b, c)) a) ↔ Zs W (some (b, c)) ad G a := fun a => or_assoc
  have zl : ∀ H : Hp, (less H fun a => (W a ∨ ∃ i xs, G[i]? = some (En.own xs) ∧ a = ad i) ∨ InB (some (b, c)) a) = less H (Zs W (some (b, c)) ad G) := fun H => congrArg (less H) (funext fun a => propext (zz a))
  refine ⟨fun a => W a ∨ ∃ i xs, G[i]? = some (En.own xs) ∧ a = ad i, b, c, vs, s1, ds, x, s', fun a z => S1.there a ((zz a).mp (.inl z)), ?_, S1.bag, ?_, hp, fun v H' e hb d => ?_⟩
  · rw [List.append_nil]
  · rw [zl]; exact d1
  · rw [zl] at d
    exact q v H' (S1.drawn e hb) (e1.trans e) d
end
end U

end
section
namespace U
open PySem L2 Evl
/-! ### built-ins, by name -/
noncomputable def rAbs : List V → Hp → VK → Prop := fun xs H Q => ∃ i, xs = [.int i] ∧ Q (.int (if i < 0 then -i else i)) H
noncomputable def rMx : List V → Hp → VK → Prop := fun xs H Q => ∃ i j, xs = [.int i, .int j] ∧ Q (.int (if j > i then j else i)) H
noncomputable def rInt1 : List V → Hp → VK → Prop := fun xs H Q => (∃ i, xs = [.int i] ∧ Q (.int i) H) ∨ ∃ k, xs = [.bl k] ∧ Q (.int (if k then 1 else 0)) H
noncomputable def rLenQ (K : Fg) : List V → Hp → VK → Prop := fun xs H Q => ∃ p ys, xs = [.ref p] ∧ (SqL K H p ys ∨ SqT K H p ys) ∧ Q (.int ys.length) H
noncomputable def rListQ (K : Fg) : List V → Hp → VK → Prop := fun xs H Q => ∃ p ys, xs = [.ref p] ∧ (SqL K H p ys ∨ SqT K H p ys) ∧ ∀ l, H l = none → Q (.ref l) (upd H l (.lst ys))
noncomputable def rTupQ (K : Fg) : List V → Hp → VK → Prop := fun xs H Q => ∃ p ys, xs = [.ref p] ∧ ((SqL K H p ys ∧ ∀ l, H l = none → Q (.ref l) (upd H l (.tup ys))) ∨ (SqT K H p ys ∧ Q (.ref p) H))
noncomputable def rIsNo : R2 := fun x y H Q => y = .non ∧ Q (.bl (decide (x = .non))) H
noncomputable def rSubB : R2 := fun x y H Q => ∃ i k, x = .bl i ∧ y = .bl k ∧ Q (.int (PyProof.Rows.b2i i - PyProof.Rows.b2i k)) H
section
variable {X : Cx}
theorem c_abs : CallR X (.builtin "abs") rAbs := call_abs
theorem c_max2 (hc : X.calm = true) : CallR X (.builtin "max") rMx := call_max2 hc
theorem c_int1 : CallR X (.type "int") rInt1 := call_int1
theorem c_len : CallR X (.builtin "len") (rLenQ X.K) := call_len_seq
theorem c_list : CallR X (.type "list") (rListQ X.K) := call_list_of
theorem c_tuple : CallR X (.type "tuple") (rTupQ X.K) := call_tuple_of
theorem o_isN : OpR X (compareOp .Is) rIsNo := op_isN
theorem o_subB : OpR X (binaryOp .Sub) rSubB := by
  intro pins s σ H x y v u Q I rx ry h
  obtain ⟨i, k, rfl, rfl, q⟩ := h
  cases rx
  cases ry
  exact PyProof.Rows.sub_bool ⟨.int _, H, I.tok _, ⟨_, rfl⟩, q⟩
end
section
variable {K : Fg} {G G1 G2 : Gam} {s s1 s2 s3 s' : Bag} {ta tb tc te : TE} {t u : TT} {x y z : PyData}
theorem ev_isNo (ha : EvG K ta G s x s') : EvG K (tOp rIsNo ta (tC .non)) G s (.bool (isNoneD x)) s' := ev_isN ha
theorem ev_subB {i j : Bool} (ha : EvG K ta G s (.bool i) s1) (hb : EvG K tb G s1 (.bool j) s2) : EvG K (tOp rSubB ta tb) G s (.int (PyProof.Rows.b2i i - PyProof.Rows.b2i j)) s2 := fun W B ad H0 H σ S Q q =>
  ha W B ad H0 H σ S _ fun v H1 S1 e1 d1 => hb W B ad H0 H1 σ S1 _ fun w H2 S2 e2 d2 => by
    cases d1; cases d2
    exact ⟨i, j, rfl, rfl, q _ H2 S2 (e1.trans e2) (.int _)⟩
/-- a call of a built-in upon data -/
theorem ev_cb {r : List V → Hp → VK → Prop} {ta : TA} {xs : List PyData} (h : EvA K ta G s xs s')
    (hr : ∀ W B ad H0 H σ vs, Sta K W B ad H0 H σ G s' → DpAll K (less H (Zs W B ad G)) vs xs → ∀ Q : VK, (∀ v H2, Sta K W B ad H0 H2 σ G s' → Xb B H H2 → Dp K (less H2 (Zs W B ad G)) v x → Q v H2) → r vs H Q) : EvG K (tCB r ta) G s x s' := fun W B ad H0 H σ S Q q =>
  h W B ad H0 H σ S _ fun vs H1 S1 e1 d1 => hr W B ad H0 H1 σ vs S1 d1 Q fun v H2 S2 e2 d2 => q v H2 S2 (e1.trans e2) d2
theorem dp1 {H : Hp} {vs : List V} {x : PyData} (h : DpAll K H vs [x]) : ∃ v, vs = [v] ∧ Dp K H v x := by
  cases h with
  | cons a b => cases b; exact ⟨_, rfl, a⟩
theorem dp2 {H : Hp} {vs : List V} {x y : PyData} (h : DpAll K H vs [x, y]) : ∃ v w, vs = [v, w] ∧ Dp K H v x ∧ Dp K H w y := by
  cases h with
  | cons a b => obtain ⟨w, rfl, c⟩ := dp1 b; exact ⟨_, w, rfl, a, c⟩
noncomputable def absI (i : Int) : Int := if i < 0 then -i else i
noncomputable def maxI (i j : Int) : Int := if j > i then j else i
theorem ev_abs {i : Int} (h : EvG K ta G s (.int i) s') : EvG K (tCB rAbs (tCons ta tNil)) G s (.int (absI i)) s' := ev_cb (ea_cons h ea_nil) fun W B ad H0 H σ vs S d Q q => by
  obtain ⟨v, rfl, d1⟩ := dp1 d
  cases d1
  exact ⟨i, rfl, q _ H S (Xb.refl) (.int _)⟩
theorem ev_max {i j : Int} (h : EvG K ta G s (.int i) s1) (h2 : EvG K tb G s1 (.int j) s') : EvG K (tCB rMx (tCons ta (tCons tb tNil))) G s (.int (maxI i j)) s' := ev_cb (ea_cons h (ea_cons h2 ea_nil)) fun W B ad H0 H σ vs S d Q q => by
  obtain ⟨v, w, rfl, d, d2⟩ := dp2 d
  cases d; cases d2
  exact ⟨i, j, rfl, q _ H S (Xb.refl) (.int _)⟩
theorem ev_intB {i : Bool} (h : EvG K ta G s (.bool i) s') : EvG K (tCB rInt1 (tCons ta tNil)) G s (.int (if i then 1 else 0)) s' := ev_cb (ea_cons h ea_nil) fun W B ad H0 H σ vs S d Q q => by
  obtain ⟨v, rfl, d1⟩ := dp1 d
  cases d1
  exact .inr ⟨i, rfl, q _ H S (Xb.refl) (.int _)⟩
theorem ev_lenT {xs : List PyData} (h : EvG K ta G s (.tuple xs) s') : EvG K (tCB (rLenQ K) (tCons ta tNil)) G s (.int xs.length) s' := ev_cb (ea_cons h ea_nil) fun W B ad H0 H σ vs S d Q q => by
  obtain ⟨v, rfl, d1⟩ := dp1 d
  cases d1 with
  | tup g t => exact ⟨_, _, rfl, .inr (ex_t less_ex g), by rw [dpa_len t]; exact q _ H S (Xb.refl) (.int _)⟩
theorem ev_lenL {xs : List PyData} (h : EvG K ta G s (.list xs) s') : EvG K (tCB (rLenQ K) (tCons ta tNil)) G s (.int xs.length) s' := ev_cb (ea_cons h ea_nil) fun W B ad H0 H σ vs S d Q q => by
  obtain ⟨v, rfl, d1⟩ := dp1 d
  cases d1 with
  | lst g t => exact ⟨_, _, rfl, .inl (ex_l less_ex g), by rw [dpa_len t]; exact q _ H S (Xb.refl) (.int _)⟩
theorem new_tup {W : Addr → Prop} {B : Option (Addr × Addr)} {ad : Nat → Addr} {H0 H : Hp} {σ : St} {vs : List V} {xs : List PyData} (S : Sta K W B ad H0 H σ G s) (d : DpAll K (less H (Zs W B ad G)) vs xs) {l : Addr} (hl : H l = none) {Q : VK}
    (q : ∀ v H2, Sta K W B ad H0 H2 σ G s → Xb B H H2 → Dp K (less H2 (Zs W B ad G)) v (.tuple xs) → Q v H2) : Q (.ref l) (upd H l (.tup vs)) := by
  obtain ⟨S2, e2, g⟩ := new_ex (o := .tup vs) S hl
  exact q _ _ S2 e2 (.tup (st_of g) (dpa_mono e2.l d))
theorem ev_tupL {xs : List PyData} (h : EvG K ta G s (.list xs) s') : EvG K (tCB (rTupQ K) (tCons ta tNil)) G s (.tuple xs) s' := ev_cb (ea_cons h ea_nil) fun W B ad H0 H σ vs S d Q q => by
  obtain ⟨v, rfl, d1⟩ := dp1 d
  cases d1 with
  | lst g t => exact ⟨_, _, rfl, .inl ⟨ex_l less_ex g, fun l hl => new_tup S t hl q⟩⟩
theorem dpa_bools {H : Hp} : ∀ {bs : List Bool} {vs : List V}, DpAll K H vs (bs.map PyData.bool) → vs = bs.map V.bl
  | [], _, .nil => rfl
  | b :: r, _, .cons h t => by cases h; rw [dpa_bools t]; rfl
theorem dpa_ints {H : Hp} : ∀ {bs : List Int} {vs : List V}, DpAll K H vs (bs.map PyData.int) → vs = bs.map V.int
  | [], _, .nil => rfl
  | b :: r, _, .cons h t => by cases h; rw [dpa_ints t]; rfl
theorem dpa_of_ints {H : Hp} : ∀ (bs : List Int), DpAll K H (bs.map V.int) (bs.map PyData.int)
  | [] => .nil
  | b :: r => .cons (.int b) (dpa_of_ints r)
theorem ev_all {bs : List Bool} (h : EvG K ta G s (.list (bs.map PyData.bool)) s') : EvG K (tCB (rAll K) (tCons ta tNil)) G s (.bool (bs.all id)) s' := ev_cb (ea_cons h ea_nil) fun W B ad H0 H σ vs S d Q q => by
  obtain ⟨v, rfl, d1⟩ := dp1 d
  cases d1 with
  | lst g t =>
    have e := dpa_bools t
    subst e
    exact ⟨_, bs, rfl, ex_l less_ex g, q _ H S (Xb.refl) (.bl _)⟩
/-! ### isinstance -/
noncomputable def tyN : PyData → String
  | .none => "NoneType"
  | .bool _ => "bool"
  | .int _ => "int"
  | .str _ => "str"
  | .list _ => "list"
  | .tuple _ => "tuple"
  | .dict _ => "dict"
theorem dp_ty {H : Hp} {Z : Addr → Prop} {v : V} {x : PyData} (h : Dp K (less H Z) v x) : TyX K H v (.type (tyN x)) := qt_of (by simp (disch := with_unfolding_all
  cases h with
  | non => exact .base .non
  | bl b => exact .base (.bl b)
  | int i => exact .base (.int i)
  | str i => exact .base (.str i)
  | lst g _ =>
    rcases ex_l less_ex g with (g | ⟨o, g⟩) | ⟨o, its, n, k, c, _⟩
    · exact .base (.lst g)
    · exact .base (.frz g)
    · exact .kList k c
  | tup g _ =>
    rcases ex_t less_ex g with (g | ⟨o, g⟩) | ⟨o, its, n, k, c, _⟩
    · exact .base (.tup g)
    · exact .fTuple g
    · exact .kTuple k c
  ) only [↓qt_eq])
/-- isinstance(x, T), T a built-in class -/
theorem ev_isi {n : String} {b : Bool} (h : EvG K ta G s x s') (hb : kitB (tyN x) n = some b) : EvG K (tCB (rIsi K) (tCons ta (tCons (tC (.ty n)) tNil))) G s (.bool b) s' := fun W B ad H0 H σ S Q q =>
  h W B ad H0 H σ S _ fun v H1 S1 e1 d1 => ⟨v, .ty n, _, _, b, rfl, .ty n, dp_ty d1, kit_ty hb, q _ H1 S1 e1 (.bl _)⟩
/-- isinstance(x, (S, T)) -/
theorem ev_isi2 {n m : String} {b c : Bool} (h : EvG K ta G s x s') (hb : kitB (tyN x) n = some b) (hc : kitB (tyN x) m = some c) : EvG K (tCB (rIsiT K) (tCons ta (tCons (tTup (tCons (tC (.ty n)) (tCons (tC (.ty m)) tNil))) tNil))) G s (.bool (b || c)) s' := fun W B ad H0 H σ S Q q =>
  h W B ad H0 H σ S _ fun v H1 S1 e1 d1 => ⟨by show 2 ≤ sizeLine; decide, fun p hp => by
    obtain ⟨S2, e2, g⟩ := new_ex (o := .tup [V.ty n, V.ty m]) S1 hp
    refine ⟨v, p, [.ty n, .ty m], _, [.type n, .type m], b || c, rfl, (less_some g).2, .cons (.ty n) (.cons (.ty m) .nil), dp_ty (dp_mono e2.l d1), kitAny_cons (kit_ty hb) (fun e => kitAny_cons (kit_ty hc) (fun e2 => ?_) fun e2 => ?_) (fun e => ?_), q _ _ S2 (e1.trans e2) (.bl _)⟩
    · rw [e, e2]; rfl
    · rw [e, e2]; rfl
    · rw [e]; rfl⟩
/-! ### slices -/
noncomputable def cutD (xs : List PyData) (lo hi : Option Int) : List PyData := (xs.drop (HT.sIx xs.length 0 lo)).take (HT.sIx xs.length xs.length hi - HT.sIx xs.length 0 lo)
theorem dpa_drop {H : Hp} : ∀ (n : Nat) {ds : List PyData} {vs : List V}, DpAll K H vs ds → DpAll K H (vs.drop n) (ds.drop n)
  | 0, _, _, h => h
  | n + 1, _, _, .nil => .nil
  | n + 1, _, _, .cons _ t => dpa_drop n t
theorem dpa_take {H : Hp} : ∀ (n : Nat) {ds : List PyData} {vs : List V}, DpAll K H vs ds → DpAll K H (vs.take n) (ds.take n)
  | 0, _, _, _ => .nil
  | n + 1, _, _, .nil => .nil
  | n + 1, _, _, .cons h t => .cons h (dpa_take n t)
theorem dpa_cut {H : Hp} {ds : List PyData} {vs : List V} (h : DpAll K H vs ds) (lo hi : Option Int) : DpAll K H (cutV vs lo hi) (cutD ds lo hi) := by
  unfold cutV cutD
  rw [dpa_len h]
  exact dpa_take _ (dpa_drop _ h)
end
end U

end
section
namespace U
open PySem L2 Evl
section
variable {K : Fg} {G G1 G2 : Gam} {s s1 s2 s3 s' : Bag} {ta tb tc te : TE} {t u : TT} {x y z : PyData} {tu tw tz : TS} {o : Out}
theorem Post.mono {W : Addr → Prop} {B : Option (Addr × Addr)} {H0 M M' : Hp} {D : Ends} (e : Ex M M') (h : Post K W B H0 M D o) : Post K W B H0 M' D o := qt_of (by simp (disch := with_unfolding_all
  cases o with
  | nx G s => exact fun ad H σ S x => h ad H σ S (e.trans x)
  | rt x s => exact h
  | bk G s => exact fun ad H σ S x => h ad H σ S (e.trans x)
  | ct G s => exact fun ad H σ S x => h ad H σ S (e.trans x)
  ) only [↓qt_eq])
theorem sg_seq (h : SG K tu G s (.nx G1 s1)) (k : SG K tz G1 s1 o) : SG K (tSeq tu tz) G s o := fun W B ad H0 H σ D S p =>
  h W B ad H0 H σ { D with nx := tz D } S fun ad' H' σ' S' e => k W B ad' H0 H' σ' D S' (p.mono e)
theorem sg_seqR (h : SG K tu G s (.rt x s1)) : SG K (tSeq tu tz) G s (.rt x s1) := fun W B ad H0 H σ D S p => h W B ad H0 H σ { D with nx := tz D } S p
theorem sg_next : SG K tNext G s (.nx G s) := fun W B ad H0 H σ D S p => p ad H σ S (Ex.refl _)
theorem sg_asg {i : Nat} (h : EvG K te G s x s1) : SG K (tAsg te (gName i)) G s (.nx (G.set i (.d x)) s1) := fun W B ad H0 H σ D S p =>
  h W B ad H0 H σ S _ fun v H1 S1 e1 d1 => p ad H1 _ (S1.setD d1) (e1.l.trans (less_sub fun a q => Zs.set_of (fun _ z => by cases z) q))
theorem sg_ret (h : EvG K te G s x s1) : SG K (tRet te) G s (.rt x s1) := fun W B ad H0 H σ D S p =>
  h W B ad H0 H σ S _ fun v H1 S1 e1 d1 => p v H1 S1.base S1.bag (dp_mono (less_sub fun a q => q.elim .inl fun z => .inr (.inr z)) d1)
theorem sg_ifT (h : EvT K t G s true s1) (k : SG K tu G s1 o) : SG K (tIfS t tu tw) G s o := fun W B ad H0 H σ D S p =>
  h W B ad H0 H σ S _ fun H1 S1 e1 => iteT (k W B ad H0 H1 σ D S1 (p.mono e1.l))
theorem sg_ifF (h : EvT K t G s false s1) (k : SG K tw G s1 o) : SG K (tIfS t tu tw) G s o := fun W B ad H0 H σ D S p =>
  h W B ad H0 H σ S _ fun H1 S1 e1 => iteF (k W B ad H0 H1 σ D S1 (p.mono e1.l))
/-- if c: return .. else on -/
theorem sg_when {b : Bool} (h : EvT K t G s b s1) (k1 : b = true → SG K (tSeq tu tz) G s1 o) (k2 : b = false → SG K tz G s1 o) : SG K (tSeq (tIfS t tu tNext) tz) G s o := fun W B ad H0 H σ D S p =>
  h W B ad H0 H σ S _ fun H1 S1 e1 => by
    cases b with
    | true => exact iteT (k1 rfl W B ad H0 H1 σ D S1 (p.mono e1.l))
    | false => exact iteF (k2 rfl W B ad H0 H1 σ D S1 (p.mono e1.l))
/-- x, y = a, b -/
theorem sg_par {i j : Nat} {ta : TA} (h : EvA K ta G s [x, y] s1) : SG K (tPar i j ta) G s (.nx ((G.set i (.d x)).set j (.d y)) s1) := fun W B ad H0 H σ D S p =>
  h W B ad H0 H σ S _ fun vs H1 S1 e1 d1 => by
    obtain ⟨v, w, rfl, d, d2⟩ := dp2 d1
    have e2 : Ex (less H1 (Zs W B ad G)) (less H1 (Zs W B ad (G.set i (.d x)))) := less_sub fun a q => Zs.set_of (fun _ z => by cases z) q
    have S2 := S1.setD (i := i) d
    exact ⟨v, w, rfl, p ad H1 _ (S2.setD (i := j) (dp_mono e2 d2)) (e1.l.trans (e2.trans (less_sub fun a q => Zs.set_of (fun _ z => by cases z) q)))⟩
/-! ### targets that are tuples of names -/
noncomputable def setAll : Gam → List Nat → List PyData → Gam
  | G, i :: is, x :: xs => setAll (G.set i (.d x)) is xs
  | G, _, _ => G
noncomputable def gNames : List Nat → TGs
  | [] => gNil
  | i :: is => gCons (gName i) (gNames is)
/-! ### lists of one's own -/
/-- what is no longer needed is forgotten -/
inductive Wk : Gam → Gam → Prop
  | nil : Wk [] []
  | cons {e : En} {G G' : Gam} : Wk G G' → Wk (e :: G) (e :: G')
  | drop {e : En} {G G' : Gam} : Wk G G' → Wk (e :: G) (.un :: G')
theorem Wk.refl : ∀ G : Gam, Wk G G
  | [] => .nil
  | _ :: G => .cons (Wk.refl G)
theorem Wk.length : ∀ {G G' : Gam}, Wk G G' → G.length = G'.length
  | _, _, .nil => rfl
  | _, _, .cons h => congrArg (· + 1) h.length
  | _, _, .drop h => congrArg (· + 1) h.length
theorem Wk.get : ∀ {G G' : Gam} {i : Nat} {e : En}, Wk G G' → G'[i]? = some e → G[i]? = some e ∨ e = .un
  | _, _, _, _, .nil, h => by simp at h
  | _, _, 0, _, .cons _, h => .inl h
  | _, _, 0, _, .drop _, h => .inr (Option.some.inj h).symm
  | _, _, i + 1, _, .cons w, h => Wk.get (i := i) w h
  | _, _, i + 1, _, .drop w, h => Wk.get (i := i) w h
theorem Wk.own {G G' : Gam} {i : Nat} {xs : List PyData} (w : Wk G G') (h : G'[i]? = some (.own xs)) : G[i]? = some (.own xs) := (w.get h).resolve_right fun z => by cases z
theorem Wk.ex {W : Addr → Prop} {B : Option (Addr × Addr)} {ad : Nat → Addr} {H : Hp} {G G' : Gam} (w : Wk G G') : Ex (less H (Zs W B ad G)) (less H (Zs W B ad G')) := less_sub fun a q => by
  rcases q with q | ⟨i, xs, g, r⟩ | q
  · exact .inl q
  · exact .inr (.inl ⟨i, xs, w.own g, r⟩)
  · exact .inr (.inr q)
theorem Sta.wk {W : Addr → Prop} {B : Option (Addr × Addr)} {ad : Nat → Addr} {H0 H : Hp} {σ : St} {G G' : Gam} (w : Wk G G') (S : Sta K W B ad H0 H σ G s) : Sta K W B ad H0 H σ G' s where
  len := S.len.trans w.length
  at_ := fun i e h => by
    rcases w.get h with g | rfl
    · obtain ⟨o, g1, g2⟩ := S.at_ i e g
      exact ⟨o, g1, g2.mono w.ex fun _ _ _ q => q⟩
    · have il : i < σ.length := by rw [S.len, w.length]; exact (List.getElem?_eq_some_iff.mp h).1
      exact ⟨σ[i], List.getElem?_eq_getElem il, trivial⟩
  inj := fun i j xs ys g g' q => S.inj i j xs ys (w.own g) (w.own g') q
  sep := fun i xs g => S.sep i xs (w.own g)
  base := S.base
  bag := S.bag
  wd := S.wd
theorem sg_wk (h : SG K tu G s (.nx G1 s1)) (w : Wk G1 G2) : SG K tu G s (.nx G2 s1) := fun W B ad H0 H σ D S p =>
  h W B ad H0 H σ D S fun ad' H' σ' S' e => p ad' H' σ' (S'.wk w) (e.trans w.ex)
theorem sg_is {o'} (h : SG K tu G s o) (e : o = o') : SG K tu G s o' := e ▸ h
/-! ### loops -/
/-- what a turn of a loop may end with: going on -/
noncomputable def Turn (K : Fg) (tb : TS) (G : Gam) (s : Bag) (G' : Gam) (s' : Bag) : Prop := SG K tb G s (.nx G' s') ∨ SG K tb G s (.ct G' s')
theorem Turn.run {tb : TS} {G' : Gam} (h : Turn K tb G s G' s') {W : Addr → Prop} {B : Option (Addr × Addr)} {ad : Nat → Addr} {H0 H : Hp} {σ : St} {D : Ends} {N : St → Hp → Prop} (S : Sta K W B ad H0 H σ G s) (hn : D.nx = N) (hc : D.ct = N)
    (q : ∀ ad' H' σ', Sta K W B ad' H0 H' σ' G' s' → Ex (less H (Zs W B ad G)) (less H' (Zs W B ad' G')) → N σ' H') : tb D σ H := by
  rcases h with h | h
  · exact h W B ad H0 H σ D S fun ad' H' σ' S' e => by rw [hn]; exact q ad' H' σ' S' e
  · exact h W B ad H0 H σ D S fun ad' H' σ' S' e => by rw [hc]; exact q ad' H' σ' S' e
/-- while, by its states one behind the other -/
theorem sg_while {tb : TS} (GG : Nat → Gam) (SS TS' : Nat → Bag) (n : Nat) (w0 : Wk G (GG 0)) (h0 : SS 0 = s) (ht : ∀ i, i < n → EvT K t (GG i) (SS i) true (TS' i)) (hs : ∀ i, i < n → Turn K tb (GG i) (TS' i) (GG (i + 1)) (SS (i + 1)))
    (he : EvT K t (GG n) (SS n) false s') : SG K (tWhile t tb) G s (.nx (GG n) s') := fun W B ad H0 H σ D S p => by
  refine ⟨fun m σ' H' => ∃ i ad', m = n - i ∧ i ≤ n ∧ Sta K W B ad' H0 H' σ' (GG i) (SS i) ∧ Ex (less H (Zs W B ad G)) (less H' (Zs W B ad' (GG i))), ⟨n, 0, ad, rfl, Nat.zero_le _, by rw [h0]; exact S.wk w0, w0.ex⟩, ?_⟩
  rintro m σ' H' ⟨i, ad', rfl, hi, S', e'⟩
  by_cases hlt : i < n
  · refine ht i hlt W B ad' H0 H' σ' S' _ fun H2 S2 e2 => iteT ⟨fun σ3 H3 => ∃ ad3, Sta K W B ad3 H0 H3 σ3 (GG (i + 1)) (SS (i + 1)) ∧ Ex (less H (Zs W B ad G)) (less H3 (Zs W B ad3 (GG (i + 1)))), ?_, ?_⟩
    · rintro σ3 H3 ⟨ad3, S3, e3⟩
      exact ⟨n - (i + 1), by omega, i + 1, ad3, rfl, hlt, S3, e3⟩
    · exact (hs i hlt).run S2 rfl rfl fun ad3 H3 σ3 S3 e3 => ⟨ad3, S3, (e'.trans e2.l).trans e3⟩
  · have en : i = n := by omega
    subst en
    exact he W B ad' H0 H' σ' S' _ fun H2 S2 e2 => iteF (p ad' H2 σ' S2 (e'.trans e2.l))
end
end U

end
section
namespace U
open PySem L2 Evl
/-! ### what is walked, and into which names -/
noncomputable def ItOk (K : Fg) (J : It) (ds : List PyData) (M : Hp) : Prop := ∀ (H' : Hp) (Z : Addr → Prop), (∀ a, Z a → ∃ o, H' a = some o) → Ex M (less H' Z) → ∀ i,
  (∀ d, ds[i]? = some d → J.go i H') ∧ (ds.length ≤ i → J.stop i H') ∧ ∀ x H'', J.yld i H' x H'' → Ex H' H'' ∧ ∀ d, ds[i]? = some d → Dp K (less H'' Z) x d
noncomputable def Src (K : Fg) (wi : TI) (G : Gam) (s : Bag) (ds : List PyData) (s1 : Bag) : Prop :=
  ∀ W B ad H0 H σ, Sta K W B ad H0 H σ G s → ∀ R : It → Hp → Prop, (∀ J H1, Sta K W B ad H0 H1 σ G s1 → Xb B H H1 → ItOk K J ds (less H1 (Zs W B ad G)) → R J H1) → wi σ H R
noncomputable def Off (vs : List Nat) (G G' : Gam) : Prop := G.length = G'.length ∧ (∀ i, i ∉ vs → G'[i]? = G[i]?) ∧ ∀ i xs, i ∈ vs → G'[i]? ≠ some (.own xs)
noncomputable def Tgt (K : Fg) (g : TG) (vs : List Nat) (G : Gam) (x : PyData) (G' : Gam) : Prop := Off vs G G' ∧ ∀ W B ad H0 H σ s v, Sta K W B ad H0 H σ G s → Dp K (less H (Zs W B ad G)) v x → ∀ Q : St → Hp → Prop,
  (∀ σ', Sta K W B ad H0 H σ' G' s → Ex (less H (Zs W B ad G)) (less H (Zs W B ad G')) → wipe σ' vs = wipe σ vs → Q σ' H) → g v σ H Q
section
variable {K : Fg} {G G' G1 G2 : Gam} {s s1 s2 s3 s' : Bag} {ta tb tc te : TE} {t u : TT} {x y z : PyData} {tu tw tz : TS} {o : Out}
theorem src_tup {ds : List PyData} (h : EvG K te G s (.tuple ds) s1) : Src K (iTup K te) G s ds s1 := fun W B ad H0 H σ S R q => h W B ad H0 H σ S _ fun v H1 S1 e1 d1 => by
  cases d1 with
  | @tup a vs _ g t =>
    refine ⟨a, rfl, ⟨vs, ex_t less_ex g⟩, q _ H1 S1 e1 fun H' Z hz e i => ?_⟩
    have g' : SqT K H' a vs := ex_t less_ex (ex_t e g)
    refine ⟨fun d hd => ?_, fun hl => ⟨vs, g', by rw [dpa_len t]; exact hl⟩, fun x H'' hy => ?_⟩
    · obtain ⟨v, hv, _⟩ := dpa_get t hd
      exact ⟨vs, v, g', hv⟩
    · obtain ⟨rfl, hy⟩ := hy
      refine ⟨Ex.refl _, fun d hd => ?_⟩
      obtain ⟨v, hv, hd⟩ := dpa_get t hd
      have ev : v = x := Option.some.inj (hv.symm.trans (hy vs g'))
      rw [← ev]
      exact dp_mono e hd
noncomputable def rngD (lo : Int) (n : Nat) : List PyData := (List.range n).map fun i : Nat => .int (lo + (i : Int))
theorem rngD_len (lo : Int) (n : Nat) : (rngD lo n).length = n := by simp [rngD]
theorem rngD_get {lo : Int} {n i : Nat} (h : i < n) : (rngD lo n)[i]? = some (.int (lo + (i : Int))) := by
  unfold rngD
  rw [List.getElem?_map, List.getElem?_range h]
  rfl
theorem it_rng {lo : Int} {n : Nat} {M : Hp} : ItOk K (Itr lo n) (rngD lo n) M := fun H' Z hz e i => by
  refine ⟨fun d hd => ?_, fun hl => ?_, fun x H'' hy => ?_⟩
  · have := (List.getElem?_eq_some_iff.mp hd).1
    rw [rngD_len] at this
    exact this
  · rw [rngD_len] at hl
    exact hl
  · obtain ⟨rfl, rfl⟩ := hy
    refine ⟨Ex.refl _, fun d hd => ?_⟩
    have hl := (List.getElem?_eq_some_iff.mp hd).1
    rw [rngD_len] at hl
    rw [rngD_get hl] at hd
    cases hd
    exact .int _
theorem src_rng1 {ta : TA} {n : Int} (h : EvA K ta G s [.int n] s1) (hn : -1000000 ≤ n ∧ n ≤ 1000000) : Src K (iRng1 ta) G s (rngD 0 n.toNat) s1 := fun W B ad H0 H σ S R q => h W B ad H0 H σ S _ fun vs H1 S1 e1 d1 => by
  obtain ⟨v, rfl, d⟩ := dp1 d1
  cases d
  exact ⟨n, rfl, by omega, by omega, q _ H1 S1 e1 it_rng⟩
/-! ### targets -/
theorem tgt_name {j : Nat} : Tgt K (gName j) [j] G x (G.set j (.d x)) := by
  refine ⟨⟨by rw [List.length_set], fun i hi => ?_, fun i xs hi h => ?_⟩, fun W B ad H0 H σ s v S d Q q => q _ (S.setD d) (less_sub fun a q => Zs.set_of (fun _ z => by cases z) q) ?_⟩
  · rw [List.getElem?_set_ne (fun z => hi (by rw [z]; exact List.mem_singleton.mpr rfl))]
  · rcases get_set h with ⟨rfl, l, e⟩ | ⟨z, g⟩
    · cases e
    · exact z (List.mem_singleton.mp hi).symm
  · show (List.set (List.set σ j (some v)) j none) = List.set σ j none
    rw [List.set_set]
theorem setAll_len : ∀ {is : List Nat} {xs : List PyData} {G : Gam}, (setAll G is xs).length = G.length
  | [], _, _ => rfl
  | _ :: _, [], _ => rfl
  | i :: is, x :: xs, G => by
    show (setAll (G.set i (.d x)) is xs).length = _
    rw [setAll_len, List.length_set]
theorem setAll_off : ∀ {is : List Nat} {xs : List PyData} {G : Gam} {i : Nat}, i ∉ is → (setAll G is xs)[i]? = G[i]?
  | [], _, _, _, _ => rfl
  | _ :: _, [], _, _, _ => rfl
  | k :: is, x :: xs, G, i, h => by
    show (setAll (G.set k (.d x)) is xs)[i]? = _
    rw [setAll_off (fun z => h (List.mem_cons_of_mem _ z)), List.getElem?_set_ne (fun z => h (by rw [z]; exact List.mem_cons_self))]
theorem wipe_set : ∀ {vs : List Nat} {σ : St} {i : Nat} {o : Option V}, i ∈ vs → wipe (σ.set i o) vs = wipe σ vs
  | v :: vs, σ, i, o, h => by
    show (wipe (σ.set i o) vs).set v none = (wipe σ vs).set v none
    by_cases hv : i ∈ vs
    · rw [wipe_set hv]
    · have e : i = v := (List.mem_cons.mp h).resolve_right hv
      subst e
      have c : ∀ (vs : List Nat) (σ : St), i ∉ vs → wipe (σ.set i o) vs = (wipe σ vs).set i o := fun vs => by
        induction vs with
        | nil => exact fun _ _ => rfl
        | cons w vs ih =>
          intro σ hn
          show (wipe (σ.set i o) vs).set w none = ((wipe σ vs).set w none).set i o
          rw [ih σ (fun z => hn (List.mem_cons_of_mem _ z)), List.set_comm _ _ (fun z => hn (by rw [z]; exact List.mem_cons_self))]
      rw [c vs σ hv, List.set_set]
theorem gnames_ok2 {W : Addr → Prop} {B : Option (Addr × Addr)} {ad : Nat → Addr} {H0 H : Hp} {us : List Nat} : ∀ {is : List Nat} {xs : List PyData} {vs : List V} {σ : St} {G : Gam} {Q : St → Hp → Prop}, (∀ i ∈ is, i ∈ us) → Sta K W B ad H0 H σ G s → DpAll K (less H (Zs W B ad G)) vs xs → is.length = xs.length →
    (∀ σ', Sta K W B ad H0 H σ' (setAll G is xs) s → Ex (less H (Zs W B ad G)) (less H (Zs W B ad (setAll G is xs))) → wipe σ' us = wipe σ us → Q σ' H) → gNames is vs σ H Q
  | [], [], _, σ, G, Q, _, S, .nil, _, q => ⟨rfl, q σ S (Ex.refl _) rfl⟩
  | i :: is, x :: xs, _, σ, G, Q, hu, S, .cons h t, hl, q => by
    have e : Ex (less H (Zs W B ad G)) (less H (Zs W B ad (G.set i (.d x)))) := less_sub fun a q => Zs.set_of (fun _ z => by cases z) q
    refine ⟨_, _, rfl, ?_⟩
    exact gnames_ok2 (fun j hj => hu j (List.mem_cons_of_mem _ hj)) (S.setD (i := i) h) (dpa_mono e t) (Nat.succ.inj hl) fun σ' S' e' ew => q σ' S' (e.trans e') (by rw [ew, wipe_set (hu i List.mem_cons_self)])
theorem tgt_tup {n : Nat} {is : List Nat} {xs : List PyData} (hl : is.length = xs.length) (hn : xs.length = n) : Tgt K (gTup K n (gNames is)) is G (.tuple xs) (setAll G is xs) := by
  refine ⟨⟨setAll_len.symm, fun i hi => setAll_off hi, fun i ys hi h => ?_⟩, fun W B ad H0 H σ s v S d Q q => ?_⟩
  · -- every one of the names is set
    have key : ∀ (is : List Nat) (xs : List PyData) (G : Gam), is.length = xs.length → i ∈ is → (setAll G is xs)[i]? ≠ some (.own ys) := fun is => by
      induction is with
      | nil => intro _ _ _ h; simp at h
      | cons k is ih =>
        intro xs G hl hi h
        cases xs with
        | nil => cases hl
        | cons x xs =>
          by_cases hm : i ∈ is
          · exact ih xs (G.set k (.d x)) (Nat.succ.inj hl) hm h
          · have e : i = k := (List.mem_cons.mp hi).resolve_right hm
            subst e
            have h' : (setAll (G.set i (.d x)) is xs)[i]? = some (.own ys) := h
            rw [setAll_off hm] at h'
            rcases get_set h' with ⟨_, _, e⟩ | ⟨z, _⟩
            · cases e
            · exact z rfl
    exact key is xs G hl hi h
  · cases d with
    | tup g t => exact ⟨_, _, rfl, ex_t less_ex g, (dpa_len t).trans hn, gnames_ok2 (fun _ h => h) S t hl q⟩
/-! ### for, over anything -/
/-! ### comprehensions -/
theorem wipe_get : ∀ {vs : List Nat} {σ : St} {i : Nat}, i ∉ vs → (wipe σ vs)[i]? = σ[i]?
  | [], _, _, _ => rfl
  | v :: vs, σ, i, h => by
    show ((wipe σ vs).set v none)[i]? = _
    rw [List.getElem?_set_ne (fun z => h (by rw [z]; exact List.mem_cons_self)), wipe_get (fun z => h (List.mem_cons_of_mem _ z))]
theorem wipe_wipe {vs : List Nat} {σ : St} : wipe (wipe σ vs) vs = wipe σ vs := qt_of (by simp (disch := with_unfolding_all
  have key : ∀ us : List Nat, (∀ i ∈ us, i ∈ vs) → wipe (wipe σ us) vs = wipe σ vs := fun us => by
    induction us with
    | nil => exact fun _ => rfl
    | cons u us ih =>
      intro h
      show wipe ((wipe σ us).set u none) vs = wipe σ vs
      rw [wipe_set (h u List.mem_cons_self), ih fun i hi => h i (List.mem_cons_of_mem _ hi)]
  exact key vs fun _ h => h
  ) only [↓qt_eq])
theorem Sta.slots {W : Addr → Prop} {B : Option (Addr × Addr)} {ad : Nat → Addr} {H0 H : Hp} {σ σ' : St} {vs : List Nat} (S : Sta K W B ad H0 H σ G s) (ho : Off vs G G') (hu : ∀ i e, i ∈ vs → G'[i]? = some e → e = .un) (hg : ∀ i xs, i ∈ vs → G[i]? ≠ some (.own xs)) (hw : wipe σ vs = wipe σ' vs) : Sta K W B ad H0 H σ' G' s := qt_of (by simp (disch := with_unfolding_all
  have hl : σ.length = σ'.length := by
    have := congrArg List.length hw
    rw [wipe_length, wipe_length] at this
    exact this
  have zz : ∀ a, Zs W B ad G' a ↔ Zs W B ad G a := fun a => by
    constructor
    · rintro (z | ⟨i, xs, g, r⟩ | z)
      · exact .inl z
      · by_cases hi : i ∈ vs
        · exact absurd (hu i _ hi g) (fun e => by cases e)
        · rw [ho.2.1 i hi] at g; exact .inr (.inl ⟨i, xs, g, r⟩)
      · exact .inr (.inr z)
    · rintro (z | ⟨i, xs, g, r⟩ | z)
      · exact .inl z
      · by_cases hi : i ∈ vs
        · exact absurd g (hg i xs hi)
        · exact .inr (.inl ⟨i, xs, by rw [ho.2.1 i hi]; exact g, r⟩)
      · exact .inr (.inr z)
  have zl : Zs W B ad G' = Zs W B ad G := funext fun a => propext (zz a)
  have own : ∀ (i : Nat) (xs : List PyData), G'[i]? = some (En.own xs) → G[i]? = some (En.own xs) := fun i xs g => by
    by_cases hi : i ∈ vs
    · exact absurd (hu i _ hi g) (fun e => by cases e)
    · rw [ho.2.1 i hi] at g; exact g
  refine ⟨hl ▸ (S.len.trans ho.1), fun i e g => ?_, fun i j xs ys g g' q => S.inj i j xs ys (own i xs g) (own j ys g') q, fun i xs g => S.sep i xs (own i xs g), S.base, S.bag, S.wd⟩
  by_cases hi : i ∈ vs
  · have e := hu i e hi g
    subst e
    have il : i < σ'.length := by rw [← hl, S.len, ho.1]; exact (List.getElem?_eq_some_iff.mp g).1
    exact ⟨σ'[i], List.getElem?_eq_getElem il, trivial⟩
  · rw [ho.2.1 i hi] at g
    obtain ⟨o, g1, g2⟩ := S.at_ i e g
    refine ⟨o, ?_, by rw [zl]; exact g2⟩
    rw [← wipe_get hi, ← hw, wipe_get hi]
    exact g1
  ) only [↓qt_eq])
theorem range_fm_succ (f : Nat → Option PyData) (i : Nat) : (List.range (i + 1)).filterMap f = (List.range i).filterMap f ++ (f i).toList := by
  rw [List.range_succ, List.filterMap_append]
  cases h : f i <;> simp [h]
/-- [elt for target in .. if ..]: f tells what each turn gives -/
theorem ev_lc {wi : TI} {g : TG} {vs : List Nat} {tt : TT} {ds : List PyData} (h : Src K wi G s ds s1) (f : Nat → Option PyData) (SS : Nat → Bag) (h0 : SS 0 = s1) (hu : ∀ i e, i ∈ vs → G[i]? = some e → e = .un) (hz : ds.length ≤ 16000000)
    (hs : ∀ i x, ds[i]? = some x → ∃ Gt s2, Tgt K g vs G x Gt ∧ EvT K tt Gt (SS i) (f i).isSome s2 ∧ (∀ y, f i = some y → EvG K te Gt s2 y (SS (i + 1))) ∧ (f i = none → s2 = SS (i + 1))) :
    EvG K (tLc wi g tt te vs) G s (.list ((List.range ds.length).filterMap f)) (SS ds.length) := fun W B ad H0 H σ S Q q =>
  h W B ad H0 H σ S _ fun J H1 S1 e1 ok Dl hD => by
    have hgu : ∀ i xs, i ∈ vs → G[i]? ≠ some (.own xs) := fun i xs hi g => by cases hu i _ hi g
    obtain ⟨L0, el0⟩ := S1.lend (o := .lst []) hD
    have fr := S1.fresh hD
    have npD : ¬ Zs W B ad G Dl := by
      rintro (z | ⟨i, xs, g, r⟩ | z)
      · obtain ⟨o, z⟩ := S1.wd _ z
        rw [hD] at z; cases z
      · obtain ⟨_, _, _, vs, h1, _⟩ := S1.at_ i _ g
        rw [← r, hD] at h1; cases h1
      · exact fr.2 z
    refine ⟨fun i m H' => m = ds.length - i ∧ i ≤ ds.length ∧ Sta K (fun a => W a ∨ a = Dl) B ad H0 H' σ G (SS i) ∧ Ex (less H1 (Zs W B ad G)) (less H' (Zs (fun a => W a ∨ a = Dl) B ad G)) ∧ Xb B H1 H' ∧
      ∃ acc, H' Dl = some (.lst acc) ∧ DpAll K (less H' (Zs (fun a => W a ∨ a = Dl) B ad G)) acc ((List.range i).filterMap f), ⟨ds.length, rfl, Nat.zero_le _, by rw [h0]; exact L0, by rw [el0]; exact Ex.refl _, .of (Ex.new hD), [], upd_same, .nil⟩, ?_⟩
    rintro i m H' ⟨rfl, hi, S', e', xb, acc, ha, hd⟩
    obtain ⟨k1, k2, k3⟩ := ok H' (Zs (fun a => W a ∨ a = Dl) B ad G) S'.there e' i
    by_cases hlt : i < ds.length
    · have hx : ds[i]? = some ds[i] := List.getElem?_eq_getElem hlt
      obtain ⟨Gt, s2, tg, ht, hy, hn⟩ := hs i _ hx
      refine .inr ⟨k1 _ hx, fun H3 => Sta K (fun a => W a ∨ a = Dl) B ad H0 H3 σ G (SS (i + 1)) ∧ Ex (less H1 (Zs W B ad G)) (less H3 (Zs (fun a => W a ∨ a = Dl) B ad G)) ∧ Xb B H1 H3 ∧
        ∃ acc, H3 Dl = some (.lst acc) ∧ DpAll K (less H3 (Zs (fun a => W a ∨ a = Dl) B ad G)) acc ((List.range (i + 1)).filterMap f), fun H3 h3 => ⟨ds.length - (i + 1), by omega, rfl, hlt, h3⟩, fun v H'' hyl => ?_⟩
      obtain ⟨ex, dx⟩ := k3 v H'' hyl
      have S2 := (S'.ext ex).slots (σ' := wipe σ vs) (G' := G) (vs := vs) ⟨rfl, fun _ _ => rfl, hgu⟩ hu hgu wipe_wipe.symm
      refine tg.2 _ B ad H0 H'' _ (SS i) v S2 (dx _ hx) _ fun σ2 S3 e3 ew => ⟨by rw [ew, wipe_wipe], ?_⟩
      have eZ : Zs (fun a => W a ∨ a = Dl) B ad Gt = Zs (fun a => W a ∨ a = Dl) B ad G := funext fun a => propext (by
        have own : ∀ (i : Nat) (xs : List PyData), Gt[i]? = some (En.own xs) ↔ G[i]? = some (En.own xs) := fun i xs => by
          by_cases hi : i ∈ vs
          · exact ⟨fun g => absurd g (tg.1.2.2 i xs hi), fun g => absurd g (hgu i xs hi)⟩
          · rw [tg.1.2.1 i hi]
        constructor
        · rintro (z | ⟨i, xs, g, r⟩ | z)
          · exact .inl z
          · exact .inr (.inl ⟨i, xs, (own i xs).mp g, r⟩)
          · exact .inr (.inr z)
        · rintro (z | ⟨i, xs, g, r⟩ | z)
          · exact .inl z
          · exact .inr (.inl ⟨i, xs, (own i xs).mpr g, r⟩)
          · exact .inr (.inr z))
      have back : ∀ {H5 : Hp} {b : Bag}, Sta K (fun a => W a ∨ a = Dl) B ad H0 H5 σ2 Gt b → Sta K (fun a => W a ∨ a = Dl) B ad H0 H5 σ G b := fun {H5 b} S5 =>
        S5.slots (G' := G) (vs := vs) ⟨tg.1.1.symm, fun i hi => (tg.1.2.1 i hi).symm, hgu⟩ hu tg.1.2.2 (by rw [ew, wipe_wipe])
      have hB : ¬ InB B Dl := fr.2
      have ha2 : H'' Dl = some (.lst acc) := ex _ _ ha
      have al : acc.length < sizeLine := by
        have h1 := dpa_len hd
        have h2 := List.length_filterMap_le f (List.range i)
        rw [List.length_range] at h2
        exact Nat.lt_of_lt_of_le (show acc.length < 16777216 by omega) (by decide)
      refine ht _ B ad H0 H'' σ2 S3 _ fun H3 S4 e4 => ?_
      have e5 : Ex (less H' (Zs (fun a => W a ∨ a = Dl) B ad G)) (less H3 (Zs (fun a => W a ∨ a = Dl) B ad G)) := (less_mono ex).trans e4.l
      cases hf : (f i) with
      | none =>
        rw [hn hf] at S4
        refine iteF ⟨back S4, e'.trans e5, (xb.trans (.of ex)).trans e4, acc, e4 _ _ ha2 hB, ?_⟩
        rw [range_fm_succ, hf]
        show DpAll K _ acc (_ ++ [])
        rw [List.append_nil]
        exact dpa_mono e5 hd
      | some y =>
        refine iteT ?_
        refine hy y hf _ B ad H0 H3 σ2 S4 _ fun w H4 S5 e6 dw => ?_
        rw [eZ] at dw
        have S6 := back S5
        have h0 : H0 Dl = none := fr.1
        obtain ⟨S7, el7⟩ := S6.foreign (o := .lst (acc ++ [w])) (p := Dl) (.inr rfl) h0 hB
        refine ⟨acc, e6 _ _ (e4 _ _ ha2 hB) hB, al, S7, ?_, ?_, acc ++ [w], upd_same, ?_⟩
        · rw [el7]
          exact e'.trans (e5.trans e6.l)
        · intro a o g n
          have na : a ≠ Dl := ne_of_none g hD
          rw [upd_ne na]
          exact ((((xb.trans (.of ex)).trans e4).trans e6) a o g n)
        · rw [el7, range_fm_succ, hf]
          exact dpa_app (dpa_mono (e5.trans e6.l) hd) (.cons dw .nil)
    · have en : i = ds.length := by omega
      subst en
      obtain ⟨S5, e5⟩ := S'.back
      refine .inl ⟨k2 (Nat.le_refl _), q _ H' S5 (e1.trans ?_) (.lst (sq_of (less_of npD ha)) (dpa_mono e5 hd))⟩
      exact fun a o g n => xb a o g n
end
end U

end
section
namespace U
open PySem PyProof.Rows L2 Evl
section
variable {K : Fg} {G G' G1 G2 : Gam} {s s1 s2 s3 s' : Bag} {ta tb tc te : TE} {t u : TT} {x y z : PyData} {tu tw tz : TS} {o : Out}
theorem range_fm_map {ds : List PyData} (F : PyData → PyData) : (List.range ds.length).filterMap (fun i => (ds[i]?).map F) = ds.map F := qt_of (by simp (disch := with_unfolding_all
  have key : ∀ (l : List PyData), (List.range l.length).filterMap (fun i => l[i]?) = l := fun l => by
    induction l with
    | nil => rfl
    | cons a l ih =>
      rw [List.length_cons, List.range_succ_eq_map, List.filterMap_cons]
      simp only [List.getElem?_cons_zero, List.filterMap_map]
      refine congrArg (a :: ·) ?_
      exact ih
  have h : (fun i : Nat => (ds[i]?).map F) = fun i : Nat => (ds.map F)[i]? := by
    funext i
    rw [List.getElem?_map]
  rw [h]
  have e := key (ds.map F)
  rw [List.length_map] at e
  exact e
  ) only [↓qt_eq])
theorem et_yes : EvT K tYes G s true s := fun W B ad H0 H σ S Q q => q H S Xb.refl
/-- [elt for target in ..], nothing drawn, no test -/
theorem ev_lcM {wi : TI} {g : TG} {vs : List Nat} {ds : List PyData} (h : Src K wi G s ds s1) (F : PyData → PyData) (hu : ∀ i e, i ∈ vs → G[i]? = some e → e = .un) (hz : ds.length ≤ 16000000)
    (hs : ∀ x, x ∈ ds → ∃ Gt, Tgt K g vs G x Gt ∧ EvG K te Gt s1 (F x) s1) : EvG K (tLc wi g tYes te vs) G s (.list (ds.map F)) s1 := qt_of (by simp (disch := with_unfolding_all
  have k := ev_lc (K := K) (te := te) (tt := tYes) h (fun i => (ds[i]?).map F) (fun _ => s1) rfl hu hz fun i x hx => by
    obtain ⟨Gt, a, b⟩ := hs x (List.mem_of_getElem? hx)
    refine ⟨Gt, s1, a, ?_, fun y hy => ?_, fun hn => rfl⟩
    · rw [hx]; exact et_yes
    · rw [hx] at hy
      cases hy
      exact b
  rw [range_fm_map] at k
  exact k
  ) only [↓qt_eq])
/-! ### deep equality -/
end
/-! ### defs -/
section
variable {Pg : Program} {w : World} {K : Fg} {mg : Str → Option Value} {base : Heap}
noncomputable def frame (n : Nat) (ds : List PyData) : Gam := ds.map .d ++ List.replicate (n - ds.length) .un
theorem frame_get {n i : Nat} {ds : List PyData} {e : En} (h : (frame n ds)[i]? = some e) : (∃ d, ds[i]? = some d ∧ e = .d d) ∨ (ds.length ≤ i ∧ e = .un) := qt_of (by simp (disch := with_unfolding_all
  unfold frame at h
  by_cases hi : i < ds.length
  · rw [List.getElem?_append_left (by rw [List.length_map]; exact hi), List.getElem?_map, List.getElem?_eq_getElem hi] at h
    exact .inl ⟨ds[i], List.getElem?_eq_getElem hi, (Option.some.inj h).symm⟩
  · have hi : ds.length ≤ i := by omega
    rw [List.getElem?_append_right (by rw [List.length_map]; exact hi)] at h
    exact .inr ⟨hi, (List.mem_replicate.mp (List.mem_of_getElem? h)).2⟩
  ) only [↓qt_eq])
theorem start_get {N : List Str} {vs : List V} {i : Nat} {v : V} (h : vs[i]? = some v) : (L2.start N vs)[i]? = some (some v) := by
  unfold L2.start
  have hi := (List.getElem?_eq_some_iff.mp h).1
  rw [List.getElem?_append_left (by rw [List.length_map]; exact hi), List.getElem?_map, h]
  rfl
theorem start_len {N : List Str} {vs : List V} : (L2.start N vs).length = vs.length + (N.length - vs.length) := by
  unfold L2.start
  rw [List.length_append, List.length_map, List.length_replicate]
/-- the state at a def's entry -/
theorem sta0 {N : List Str} {W : Addr → Prop} {H : Hp} {vs : List V} {ds : List PyData} (hW : ∀ a, W a → ∃ o, H a = some o) (hd : DpAll K (less H W) vs ds) (b : Bag) : Sta K W none (fun _ => 0) H H (L2.start N vs) (frame N.length ds) b := qt_of (by simp (disch := with_unfolding_all
  have no : ∀ (i : Nat) (xs : List PyData), (frame N.length ds)[i]? ≠ some (En.own xs) := fun i xs h => by
    rcases frame_get h with ⟨d, _, e⟩ | ⟨_, e⟩ <;> cases e
  have zz : ∀ a, Zs W none (fun _ => 0) (frame N.length ds) a → W a := by
    rintro a (z | ⟨i, xs, g, _⟩ | ⟨b, c, z, _⟩)
    · exact z
    · exact absurd g (no i xs)
    · cases z
  refine ⟨?_, fun i e h => ?_, fun i j xs ys g => absurd g (no i xs), fun i xs g => absurd g (no i xs), fun a o h _ => h, trivial, hW⟩
  · rw [start_len, dpa_len hd]
    unfold frame
    rw [List.length_append, List.length_map, List.length_replicate]
  · rcases frame_get h with ⟨d, hi, rfl⟩ | ⟨hi, rfl⟩
    · obtain ⟨v, hv, dv⟩ := dpa_get hd hi
      exact ⟨some v, start_get hv, v, rfl, dp_mono (less_sub zz) dv⟩
    · have il : i < (L2.start N vs).length := by
        rw [start_len, dpa_len hd]
        have := (List.getElem?_eq_some_iff.mp h).1
        unfold frame at this
        rw [List.length_append, List.length_map, List.length_replicate] at this
        exact this
      exact ⟨(L2.start N vs)[i], List.getElem?_eq_getElem il, trivial⟩
  ) only [↓qt_eq])
/-- a def of data -/
theorem okP {x qual : Str} {st : Stmt} {f : Addr} {fd : FuncData} {N ps : List Str} {k : Nat} {P : List PyData → PyData → Prop} (F : Fun K x qual st f fd) (S : FnScope N ps (defScope st)) (hl : ∀ ds r, P ds r → ds.length = ps.length)
    (hb : ∀ ds r, P ds r → ∀ (cdv : Value) (A : Around) (outer : List Env) (sh : Shared) (H : Hp) (E : XK), Room k (A.deeper (envOfC qual (defScope st) sh.heap.objs.size f cdv)) →
      ∃ t, PSs (cxOf CX0 Pg w K mg base N qual (defScope st) f cdv A outer sh H E).nox (defBody st) t ∧ ∀ b, SG K t (frame N.length ds) b (.rt r b)) : FnOk Pg w K mg base CX0 (k + 1) f fd ps (spP K P) := qt_of (by simp (disch := with_unfolding_all
  refine F.ok S (fun vs H Q E h => ?_) (fun cdv A outer sh H vs Q E hr h => ?_)
  · obtain ⟨W, ds, r, _, hd, hp, _⟩ := h
    rw [dpa_len hd]
    exact hl ds r hp
  · obtain ⟨W, ds, r, hW, hd, hp, q⟩ := h
    obtain ⟨t, ht, g⟩ := hb ds r hp cdv A outer sh H E hr
    refine ⟨t, ht, g ⟨[], 0, 0⟩ W none (fun _ => 0) H H _ _ (sta0 hW hd _) fun v H' e _ d => q v H' (fun a o h => e a o h (fun ⟨_, _, z, _⟩ => by cases z)) (dp_mono (less_sub fun a z => .inl z) d)⟩
  ) only [↓qt_eq])
theorem staB {N : List Str} {W : Addr → Prop} {H : Hp} {b c : Addr} {vs : List V} {ds : List PyData} {s : Bag} (hW : ∀ a, W a → ∃ o, H a = some o) (hB : BagAt H (some (b, c)) s) (hd : DpAll K (less H fun a => W a ∨ InB (some (b, c)) a) vs ds) :
    Sta K W (some (b, c)) (fun _ => 0) H H (L2.start N (.ref b :: vs)) (.bag :: frame (N.length - 1) ds) s := qt_of (by simp (disch := with_unfolding_all
  have no : ∀ (i : Nat) (xs : List PyData), (En.bag :: frame (N.length - 1) ds)[i]? ≠ some (En.own xs) := fun i xs h => by
    cases i with
    | zero => cases h
    | succ i => rcases frame_get h with ⟨d, _, e⟩ | ⟨_, e⟩ <;> cases e
  have zz : ∀ a, Zs W (some (b, c)) (fun _ => 0) (En.bag :: frame (N.length - 1) ds) a → W a ∨ InB (some (b, c)) a := by
    rintro a (z | ⟨i, xs, g, _⟩ | z)
    · exact .inl z
    · exact absurd g (no i xs)
    · exact .inr z
  have ln : (L2.start N (.ref b :: vs)).length = (En.bag :: frame (N.length - 1) ds).length := by
    rw [start_len, List.length_cons, List.length_cons, dpa_len hd]
    unfold frame
    rw [List.length_append, List.length_map, List.length_replicate]
    omega
  refine ⟨ln, fun i e h => ?_, fun i j xs ys g => absurd g (no i xs), fun i xs g => absurd g (no i xs), fun a o h _ => h, hB, hW⟩
  cases i with
  | zero =>
    cases h
    exact ⟨some (.ref b), rfl, b, c, rfl, rfl⟩
  | succ i =>
    rcases frame_get h with ⟨d, hi, rfl⟩ | ⟨hi, rfl⟩
    · obtain ⟨v, hv, dv⟩ := dpa_get hd hi
      exact ⟨some v, start_get (show (V.ref b :: vs)[i + 1]? = some v from hv), v, rfl, dp_mono (less_sub zz) dv⟩
    · have il : i + 1 < (L2.start N (.ref b :: vs)).length := by
        rw [ln]; exact (List.getElem?_eq_some_iff.mp h).1
      exact ⟨_, List.getElem?_eq_getElem il, trivial⟩
  ) only [↓qt_eq])
/-- a def that draws -/
theorem okB {x qual : Str} {st : Stmt} {f : Addr} {fd : FuncData} {N ps : List Str} {k : Nat} {P : Bag → List PyData → PyData → Bag → Prop} (F : Fun K x qual st f fd) (S : FnScope N ps (defScope st)) (hl : ∀ s ds r s', P s ds r s' → ds.length + 1 = ps.length)
    (hb : ∀ s ds r s', P s ds r s' → s.ok → ∀ (cdv : Value) (A : Around) (outer : List Env) (sh : Shared) (H : Hp) (E : XK), Room k (A.deeper (envOfC qual (defScope st) sh.heap.objs.size f cdv)) →
      ∃ t, PSs (cxOf CX0 Pg w K mg base N qual (defScope st) f cdv A outer sh H E).nox (defBody st) t ∧ SG K t (.bag :: frame (N.length - 1) ds) s (.rt r s')) : FnOk Pg w K mg base CX0 (k + 1) f fd ps (spB K P) := qt_of (by simp (disch := with_unfolding_all
  refine F.ok S (fun vs H Q E h => ?_) (fun cdv A outer sh H vs Q E hr h => ?_)
  · obtain ⟨W, b, c, us, s, ds, r, s', _, rfl, _, hd, hp, _⟩ := h
    rw [List.length_cons, dpa_len hd]
    exact hl s ds r s' hp
  · obtain ⟨W, b, c, us, s, ds, r, s', hW, rfl, hB, hd, hp, q⟩ := h
    obtain ⟨t, ht, g⟩ := hb s ds r s' hp hB.2.2 cdv A outer sh H E hr
    exact ⟨t, ht, g W (some (b, c)) (fun _ => 0) H H _ _ (staB hW hB hd) fun v H' e hb d => q v H' e hb d⟩
  ) only [↓qt_eq])
/-! ### the law itself: the script, the bag made of it, the rest -/
noncomputable def bag0 (ns : List Int) : Bag := ⟨ns, 0, 20011⟩
noncomputable def spBag (K : Fg) : Sp := fun vs H Q _ => ∃ (W : Addr → Prop) (ns : List Int), (∀ a, W a → ∃ o, H a = some o) ∧ DpAll K (less H W) vs [.list (ns.map PyData.int)] ∧ ns.length ≤ 63 ∧
  ∀ b c H', Ex H H' → H b = none → H c = none → BagAt H' (some (b, c)) (bag0 ns) → Q (.ref b) H'
noncomputable def PLaw : List PyData → PyData → Prop := fun ds r => ∃ ns : List Int, ds = [.list (ns.map PyData.int)] ∧ ns.length ≤ 63 ∧ r = .bool true
end
end U

end
section
namespace U
open PySem PyProof.Rows L2 Evl
/-! ### the mathematics of fractions -/
noncomputable abbrev Fr := Int × Int
noncomputable abbrev fr (p : Fr) : PyData := .tuple [.int p.1, .int p.2]
noncomputable def gN (a b : Int) : Nat := max (Nat.gcd a.natAbs b.natAbs) 1
noncomputable def gI (a b : Int) : Int := (gN a b : Int)
theorem gI_pos (a b : Int) : 0 < gI a b := by
  unfold gI gN
  have : 1 ≤ max (Nat.gcd a.natAbs b.natAbs) 1 := Nat.le_max_right _ _
  omega
/-- the states of Euclid's loop -/
noncomputable def eu (x y : Nat) : Nat → Nat × Nat
  | 0 => (x, y)
  | i + 1 => ((eu x y i).2, (eu x y i).1 % (eu x y i).2)
theorem eu_shift (x y : Nat) : ∀ i, eu x y (i + 1) = eu y (x % y) i
  | 0 => rfl
  | i + 1 => by
    show ((eu x y (i + 1)).2, (eu x y (i + 1)).1 % (eu x y (i + 1)).2) = _
    rw [eu_shift x y i]
    rfl
theorem eu_end : ∀ (y x : Nat), ∃ n, eu x y n = (Nat.gcd x y, 0) ∧ ∀ i, i < n → 0 < (eu x y i).2 := fun y => by
  induction y using Nat.strongRecOn with
  | ind y ih =>
    intro x
    by_cases hy : y = 0
    · subst hy
      exact ⟨0, by show (x, 0) = _; rw [Nat.gcd_zero_right], fun i hi => absurd hi (Nat.not_lt_zero _)⟩
    · obtain ⟨n, h1, h2⟩ := ih (x % y) (Nat.mod_lt _ (Nat.pos_of_ne_zero hy)) y
      refine ⟨n + 1, ?_, fun i hi => ?_⟩
      · rw [eu_shift, h1, Nat.gcd_comm x y, Nat.gcd_rec y x]
        rw [Nat.gcd_comm]
      · cases i with
        | zero => exact Nat.pos_of_ne_zero hy
        | succ i =>
          rw [eu_shift]
          exact h2 i (by omega)
theorem fmod_nat (a b : Nat) : Int.fmod (a : Int) (b : Int) = ((a % b : Nat) : Int) := by
  rw [Int.fmod_eq_emod_of_nonneg _ (Int.natCast_nonneg b)]
  rfl
theorem absI_nat (a : Int) : absI a = (a.natAbs : Int) := by
  unfold absI
  split <;> omega
noncomputable def Bd (n : Nat) (a : Int) : Prop := a.natAbs < 2 ^ n
noncomputable def Sz (n : Nat) (p : Fr) : Prop := Bd n p.1 ∧ Bd n p.2
theorem Bd.mono {n m : Nat} {a : Int} (h : Bd n a) (l : n ≤ m) : Bd m a := Nat.lt_of_lt_of_le h (Nat.pow_le_pow_right (by decide) l)
theorem Sz.mono {n m : Nat} {p : Fr} (h : Sz n p) (l : n ≤ m) : Sz m p := ⟨h.1.mono l, h.2.mono l⟩
theorem Bd.mul {n m : Nat} {a b : Int} (ha : Bd n a) (hb : Bd m b) : Bd (n + m) (a * b) := wide_lt ha hb
theorem Bd.cm {n m : Nat} {a b : Int} (ha : Bd n a) (hb : Bd m b) (h : n + m + 2 ≤ 1000000) : CMulW a b :=
  wide_mul (ha.mono (Nat.le_succ n)) (hb.mono (Nat.le_succ m)) (Nat.succ_pos _) (Nat.succ_pos _) (by omega)
theorem Bd.add {n : Nat} {a b : Int} (ha : Bd n a) (hb : Bd n b) : Bd (n + 1) (a + b) := by
  unfold Bd at *
  rw [Nat.pow_succ]
  omega
theorem Bd.sub {n : Nat} {a b : Int} (ha : Bd n a) (hb : Bd n b) : Bd (n + 1) (a - b) := by
  unfold Bd at *
  rw [Nat.pow_succ]
  omega
theorem Bd.neg {n : Nat} {a : Int} (ha : Bd n a) : Bd n (-a) := by
  unfold Bd at *
  omega
theorem Bd.fdiv {n : Nat} {a : Int} (b : Int) (ha : Bd n a) : Bd n (a.fdiv b) := Nat.lt_of_le_of_lt (Int.natAbs_fdiv_le_natAbs a b) ha
theorem gN_le {n : Nat} {a b : Int} (ha : Bd n a) (hb : Bd n b) : gN a b ≤ 2 ^ n := qt_of (by simp (disch := with_unfolding_all
  unfold gN
  have h1 : 1 ≤ 2 ^ n := Nat.one_le_two_pow
  refine Nat.max_le.mpr ⟨?_, h1⟩
  by_cases h0 : a.natAbs = 0
  · rw [h0, Nat.gcd_zero_left]
    exact Nat.le_of_lt hb
  · exact Nat.le_trans (Nat.gcd_le_left _ (Nat.pos_of_ne_zero h0)) (Nat.le_of_lt ha)
  ) only [↓qt_eq])
theorem Bd.g {n : Nat} {a b : Int} (ha : Bd n a) (hb : Bd n b) : Bd (n + 1) (gI a b) := by
  have h := gN_le ha hb
  have h1 : 1 ≤ 2 ^ n := Nat.one_le_two_pow
  unfold Bd gI
  rw [Nat.pow_succ, Int.natAbs_natCast]
  omega
theorem Bd.dv {n : Nat} {i j : Int} (h0 : j ≠ 0) (h : Bd n j) (hn : n ≤ 8000) : CDvX i j := by
  refine ⟨h0, ?_⟩
  have h2 : j.natAbs < 2 ^ (n + 1) := h.mono (Nat.le_succ n)
  have := PySem.Flt.log2_lt_of (Nat.succ_pos n) h2
  omega
/-! ### gcd, the law's own and the program's -/
theorem max_gN (a b : Int) : maxI 1 (Nat.gcd a.natAbs b.natAbs : Nat) = gI a b := by
  unfold maxI gI gN
  rw [Nat.max_def]
  split <;> split <;> omega
theorem gN_max (a b : Int) : maxI (Nat.gcd a.natAbs b.natAbs : Nat) 1 = gI a b := by
  unfold maxI gI gN
  rw [Nat.max_def]
  split <;> split <;> omega
noncomputable def P_gcd : List PyData → PyData → Prop := fun ds r => ∃ a b : Int, ds = [.int a, .int b] ∧ r = .int (gI a b)
/-- above / below as the law makes it -/
noncomputable def fracF (a b : Int) : Fr := (a.fdiv (if b < 0 then -gI a b else gI a b), b.fdiv (if b < 0 then -gI a b else gI a b))
noncomputable def P_frac : List PyData → PyData → Prop := fun ds r => ∃ a b : Int, ds = [.int a, .int b] ∧ Bd 7990 a ∧ Bd 7990 b ∧ r = fr (fracF a b)
theorem Sz.frac {n : Nat} {a b : Int} (ha : Bd n a) (hb : Bd n b) : Sz n (fracF a b) := ⟨ha.fdiv _, hb.fdiv _⟩
noncomputable def addF (p q : Fr) : Fr := fracF (p.1 * q.2 + q.1 * p.2) (p.2 * q.2)
theorem Sz.add {n m : Nat} {p q : Fr} (hp : Sz n p) (hq : Sz m q) : Sz (n + m + 1) (addF p q) :=
  Sz.frac (Bd.add (hp.1.mul hq.2) (by rw [Nat.add_comm n m]; exact hq.1.mul hp.2)) ((hp.2.mul hq.2).mono (Nat.le_succ _))
noncomputable def P_add : List PyData → PyData → Prop := fun ds r => ∃ (n m : Nat) (p q : Fr), ds = [fr p, fr q] ∧ Sz n p ∧ Sz m q ∧ n + m ≤ 7800 ∧ r = fr (addF p q)
noncomputable def sgn (i : Int) : Int := (if decide (0 < i) then 1 else 0) - (if decide (i < 0) then 1 else 0)
noncomputable def P_sign : List PyData → PyData → Prop := fun ds r => ∃ a : Int, ds = [.int a] ∧ r = .int (sgn a)
noncomputable def cmpF (p q : Fr) : Int := sgn (p.1 * q.2 - q.1 * p.2)
noncomputable def P_cmp : List PyData → PyData → Prop := fun ds r => ∃ p q : Fr, ds = [fr p, fr q] ∧ Sz 1900 p ∧ Sz 1900 q ∧ r = .int (cmpF p q)
section
variable {K : Fg} {G G' G1 G2 : Gam} {s s1 s2 s3 s' : Bag} {ta tb tc te : TE} {t u : TT} {x y z : PyData} {E : XK}
theorem ev_fst {p : Fr} (h : EvG K te G s (fr p) s') : EvG K (tOp (rIx K) te (tC (.int 0))) G s (.int p.1) s' := ev_ixT h ev_int rfl
theorem ev_snd {p : Fr} (h : EvG K te G s (fr p) s') : EvG K (tOp (rIx K) te (tC (.int 1))) G s (.int p.2) s' := ev_ixT h ev_int rfl
theorem ev_gcd {a b : Int} (h1 : EvG K ta G s (.int a) s1) (h2 : EvG K tb G s1 (.int b) s2) : EvG K (tCall (spP K P_gcd) [] E (tCons ta (tCons tb tNil))) G s (.int (gI a b)) s2 :=
  ev_call (ea_cons h1 (ea_cons h2 ea_nil)) (fun _ => .nil) ⟨a, b, rfl, rfl⟩
theorem ev_frac {a b : Int} (h1 : EvG K ta G s (.int a) s1) (h2 : EvG K tb G s1 (.int b) s2) (ha : Bd 4000 a) (hb : Bd 4000 b) : EvG K (tCall (spP K P_frac) [] E (tCons ta (tCons tb tNil))) G s (fr (fracF a b)) s2 :=
  ev_call (ea_cons h1 (ea_cons h2 ea_nil)) (fun _ => .nil) ⟨a, b, rfl, ha.mono (by decide), hb.mono (by decide), rfl⟩
theorem ev_fracN {a b : Int} (h1 : EvG K ta G s (.int a) s1) (h2 : EvG K tb G s1 (.int b) s2) (ha : Bd 7990 a) (hb : Bd 7990 b) : EvG K (tCall (spP K P_frac) [] E (tCons ta (tCons tb tNil))) G s (fr (fracF a b)) s2 :=
  ev_call (ea_cons h1 (ea_cons h2 ea_nil)) (fun _ => .nil) ⟨a, b, rfl, ha, hb, rfl⟩
theorem ev_fadd {p q : Fr} (h1 : EvG K ta G s (fr p) s1) (h2 : EvG K tb G s1 (fr q) s2) (ha : Sz 1900 p) (hb : Sz 1900 q) : EvG K (tCall (spP K P_add) [] E (tCons ta (tCons tb tNil))) G s (fr (addF p q)) s2 :=
  ev_call (ea_cons h1 (ea_cons h2 ea_nil)) (fun _ => .nil) ⟨1900, 1900, p, q, rfl, ha, hb, by decide, rfl⟩
theorem ev_sign {a : Int} (h1 : EvG K ta G s (.int a) s1) : EvG K (tCall (spP K P_sign) [] E (tCons ta tNil)) G s (.int (sgn a)) s1 :=
  ev_call (ea_cons h1 ea_nil) (fun _ => .nil) ⟨a, rfl, rfl⟩
end
theorem less_none {K : Fg} {H : Hp} {a : Addr} {xs : List V} (h : SqL K H a xs) : SqL K (less H fun _ => False) a xs := ex_l (fun a o h => less_of (fun z => z) h) h
noncomputable def ordF (p q : Fr) : Int := b2i (decide (0 < p.1 * q.2 - q.1 * p.2)) - b2i (decide (p.1 * q.2 - q.1 * p.2 < 0))
noncomputable def P_order : List PyData → PyData → Prop := fun ds r => ∃ p q : Fr, ds = [fr p, fr q] ∧ Sz 300000 p ∧ Sz 300000 q ∧ r = .int (ordF p q)
theorem ev_order {K : Fg} {G : Gam} {s s1 s2 : Bag} {ta tb : TE} {E : XK} {p q : Fr} (h1 : EvG K ta G s (fr p) s1) (h2 : EvG K tb G s1 (fr q) s2) (ha : Sz 300000 p) (hb : Sz 300000 q) : EvG K (tCall (spP K P_order) [] E (tCons ta (tCons tb tNil))) G s (.int (ordF p q)) s2 :=
  ev_call (ea_cons h1 (ea_cons h2 ea_nil)) (fun _ => .nil) ⟨p, q, rfl, ha, hb, rfl⟩
theorem ev_ixDisp {K : Fg} {G : Gam} {s s1 s2 : Bag} {ta : TA} {tb : TE} {xs : List PyData} {x : PyData} {i : Int} (h : EvA K ta G s xs s1) (hl : xs.length ≤ 16000000) (hb : EvG K tb G s1 (.int i) s2) (he : atI xs i = some x) : EvG K (tOp (rIx K) (tLst ta) tb) G s x s2 := ev_ixL (ev_lst h hl) hb he
/-! ### draws -/
noncomputable def cellOf (s : Bag) : Int := if s.cs.length = 0 then 0 else s.cs.getD (s.i.fmod s.cs.length).toNat 0
noncomputable def pull (s : Bag) (n : Int) : Int × Bag :=
  if 0 < s.cs.length ∧ 1000000000000000000 ≤ absI (cellOf s) then ((cellOf s).fmod n, ⟨s.cs.set (s.i.fmod s.cs.length).toNat ((cellOf s).fdiv n), s.i, s.j⟩)
  else
    let j := (s.j * 48271 + (cellOf s).fmod 1000003 + (s.i + 1)).fmod 2147483647
    ((((j * 69621 + j.fdiv 65536).fmod 2147483629).fdiv 32).fmod n, ⟨s.cs, s.i + 1, j⟩)
noncomputable def pullV (s : Bag) (n : Int) : Int := (pull s n).1
noncomputable def pullS (s : Bag) (n : Int) : Bag := (pull s n).2
theorem fmod_range (a : Int) {n : Int} (h : 0 < n) : 0 ≤ a.fmod n ∧ a.fmod n < n := by
  rw [Int.fmod_eq_emod_of_nonneg _ (Int.le_of_lt h)]
  exact ⟨Int.emod_nonneg _ (by omega), Int.emod_lt_of_pos _ h⟩
theorem pullV_range (s : Bag) {n : Int} (h : 0 < n) : 0 ≤ pullV s n ∧ pullV s n < n := by
  unfold pullV pull
  split
  · exact fmod_range _ h
  · exact fmod_range _ h
theorem pullS_ok {s : Bag} (n : Int) (h : s.ok) : (pullS s n).ok := qt_of (by simp (disch := with_unfolding_all
  obtain ⟨h1, h2, h3⟩ := h
  unfold pullS pull
  split
  · exact ⟨by show (List.set _ _ _).length ≤ 63; rw [List.length_set]; exact h1, h2, h3⟩
  · have := fmod_range (s.j * 48271 + (cellOf s).fmod 1000003 + (s.i + 1)) (n := 2147483647) (by decide)
    exact ⟨h1, this.1, this.2⟩
  ) only [↓qt_eq])
noncomputable def P_pull : Bag → List PyData → PyData → Bag → Prop := fun s ds r s' => ∃ n : Int, ds = [.int n] ∧ 0 < n ∧ n < 1000000000000 ∧ r = .int (pullV s n) ∧ s' = pullS s n
section
variable {K : Fg} {G G' G1 G2 : Gam} {s s1 s2 s3 s' : Bag} {ta tb tc te : TE} {t u : TT} {x y z : PyData} {E : XK}
theorem ev_pull {i : Nat} {n : Int} (hi : G[i]? = some .bag) (h : EvG K ta G s (.int n) s1) (h0 : 0 < n) (h1 : n < 1000000000000) : EvG K (tCall (spB K P_pull) [] E (tCons (tVar i) (tCons ta tNil))) G s (.int (pullV s1 n)) (pullS s1 n) :=
  ev_callB hi (ea_cons h ea_nil) ⟨n, rfl, h0, h1, rfl, rfl⟩
end
/-! ### drawn numbers -/
noncomputable def menu (l : List Int) (i : Int) : Int := l.getD i.toNat 0
theorem menu_at {l : List Int} {i : Int} (h0 : 0 ≤ i) (h1 : i < l.length) : atI (l.map PyData.int) i = some (.int (menu l i)) := qt_of (by simp (disch := with_unfolding_all
  obtain ⟨j, rfl⟩ : ∃ j : Nat, i = (j : Int) := ⟨i.toNat, by omega⟩
  have hj : j < l.length := by omega
  refine atI_nat ?_
  unfold menu
  rw [List.getElem?_map, List.getElem?_eq_getElem hj, Int.toNat_natCast, List.getD_eq_getElem?_getD, List.getElem?_eq_getElem hj]
  rfl
  ) only [↓qt_eq])
theorem menu_mem {l : List Int} {i : Int} (h0 : 0 ≤ i) (h1 : i < l.length) : menu l i ∈ l := qt_of (by simp (disch := with_unfolding_all
  obtain ⟨j, rfl⟩ : ∃ j : Nat, i = (j : Int) := ⟨i.toNat, by omega⟩
  have hj : j < l.length := by omega
  unfold menu
  rw [Int.toNat_natCast, List.getD_eq_getElem?_getD, List.getElem?_eq_getElem hj]
  exact List.getElem_mem hj
  ) only [↓qt_eq])
noncomputable def partOf (s : Bag) : Fr := fracF (pullV s 13 - 6) (menu [1, 1, 2, 3] (pullV (pullS s 13) 4))
noncomputable def partS (s : Bag) : Bag := pullS (pullS s 13) 4
noncomputable def P_part : Bag → List PyData → PyData → Bag → Prop := fun s ds r s' => ds = [] ∧ r = fr (partOf s) ∧ s' = partS s
theorem ev_b0 {K : Fg} {G : Gam} {s s' : Bag} {x : PyData} {E : XK} {i : Nat} {P : Bag → List PyData → PyData → Bag → Prop} (hi : G[i]? = some .bag) (hp : P s [] x s') : EvG K (tCall (spB K P) [] E (tCons (tVar i) tNil)) G s x s' := ev_callB hi ea_nil hp
theorem ev_part {K : Fg} {G : Gam} {s : Bag} {E : XK} {i : Nat} (hi : G[i]? = some .bag) : EvG K (tCall (spB K P_part) [] E (tCons (tVar i) tNil)) G s (fr (partOf s)) (partS s) := ev_b0 hi ⟨rfl, rfl, rfl⟩
theorem partOf_sz (s : Bag) : Sz 10 (partOf s) := qt_of (by simp (disch := with_unfolding_all
  obtain ⟨z1, z2⟩ := pullV_range s (n := 13) (by decide)
  obtain ⟨y1, y2⟩ := pullV_range (pullS s 13) (n := 4) (by decide)
  have hm := menu_mem (l := [1, 1, 2, 3]) y1 y2
  unfold partOf
  generalize menu _ _ = m at hm
  generalize pullV s 13 = y at *
  simp only [List.mem_cons, List.mem_singleton, List.not_mem_nil, or_false] at hm
  refine Sz.frac ?_ ?_
  · unfold Bd; omega
  · unfold Bd; omega
  ) only [↓qt_eq])
theorem partS_ok {s : Bag} (h : s.ok) : (partS s).ok := pullS_ok _ (pullS_ok _ h)
/-! ### alike: what is asked of a thing and itself -/
mutual
noncomputable def okD : Nat → PyData → Bool
  | _, .none => true
  | _, .bool _ => true
  | _, .int _ => true
  | _, .str _ => true
  | 0, .list _ => false
  | 0, .tuple _ => false
  | n + 1, .list xs => decide (xs.length ≤ 1000000) && okAll n xs
  | n + 1, .tuple xs => decide (xs.length ≤ 1000000) && okAll n xs
  | _, .dict _ => false
noncomputable def okAll : Nat → List PyData → Bool
  | _, [] => true
  | n, x :: xs => okD n x && okAll n xs
end
theorem okAll_get : ∀ {n : Nat} {xs : List PyData} {i : Nat} {x : PyData}, okAll n xs = true → xs[i]? = some x → okD n x = true
  | _, [], _, _, _, h => by simp at h
  | n, y :: xs, 0, x, h, e => by
    have e := Option.some.inj e
    subst e
    unfold okAll at h
    exact (Bool.and_eq_true_iff.mp h).1
  | n, y :: xs, i + 1, x, h, e => by
    unfold okAll at h
    exact okAll_get (i := i) (Bool.and_eq_true_iff.mp h).2 e
noncomputable def P_like : Nat → List PyData → PyData → Prop
  | 0 => fun _ _ => False
  | n + 1 => fun ds r => ∃ x : PyData, ds = [x, x] ∧ okD n x = true ∧ r = .bool true
section
variable {K : Fg} {G G' G1 G2 : Gam} {s s1 s2 s3 s' : Bag} {ta tb tc te : TE} {t u : TT} {x y z : PyData} {E : XK}
theorem ev_like {n : Nat} (h1 : EvG K ta G s x s1) (h2 : EvG K tb G s1 y s2) (e : x = y) (hx : okD n y = true) : EvG K (tCall (spP K (P_like (n + 1))) [] E (tCons ta (tCons tb tNil))) G s (.bool true) s2 := by
  subst e
  exact ev_call (ea_cons h1 (ea_cons h2 ea_nil)) (fun _ => .nil) ⟨x, rfl, hx, rfl⟩
end
end U

end
section
namespace U
open PySem PyProof.Rows L2 Evl
/-! what plain data are -/
theorem okD_sh (n : Nat) : ∀ x : PyData, okD n x = true → x.depth ≤ n ∧ PyData.eqv x x = true := qt_of (by simp (disch := with_unfolding_all
  induction n with
  | zero =>
    intro x h
    cases x with
    | none => exact ⟨Nat.le_refl _, rfl⟩
    | bool b => exact ⟨Nat.le_refl _, by show (b == b) = true; simp⟩
    | int i => exact ⟨Nat.le_refl _, by show (i == i) = true; simp⟩
    | str s => exact ⟨Nat.le_refl _, by show (s == s) = true; simp⟩
    | list xs => cases h
    | tuple xs => cases h
    | dict xs => cases h
  | succ n ih =>
    have all : ∀ xs : List PyData, okAll n xs = true → PyData.depthAll xs ≤ n ∧ PyData.eqvAll xs xs = true := fun xs => by
      induction xs with
      | nil => exact fun _ => ⟨Nat.zero_le _, rfl⟩
      | cons a l ih2 =>
        intro h
        unfold okAll at h
        obtain ⟨h1, h2⟩ := Bool.and_eq_true_iff.mp h
        obtain ⟨a2, a3⟩ := ih a h1
        obtain ⟨b2, b3⟩ := ih2 h2
        refine ⟨?_, ?_⟩
        · show max a.depth (PyData.depthAll l) ≤ n
          exact Nat.max_le.mpr ⟨a2, b2⟩
        · show (PyData.eqv a a && PyData.eqvAll l l) = true
          rw [a3, b3]; rfl
    intro x h
    cases x with
    | none => exact ⟨Nat.zero_le _, rfl⟩
    | bool b => exact ⟨Nat.zero_le _, by show (b == b) = true; simp⟩
    | int i => exact ⟨Nat.zero_le _, by show (i == i) = true; simp⟩
    | str s => exact ⟨Nat.zero_le _, by show (s == s) = true; simp⟩
    | list xs =>
      unfold okD at h
      obtain ⟨h1, h2⟩ := Bool.and_eq_true_iff.mp h
      obtain ⟨b2, b3⟩ := all xs h2
      exact ⟨Nat.succ_le_succ b2, b3⟩
    | tuple xs =>
      unfold okD at h
      obtain ⟨h1, h2⟩ := Bool.and_eq_true_iff.mp h
      obtain ⟨b2, b3⟩ := all xs h2
      exact ⟨Nat.succ_le_succ b2, b3⟩
    | dict xs => cases h
  ) only [↓qt_eq])
theorem canAll_of : ∀ {xs : List PyData}, (∀ x ∈ xs, x.canLay0 = true) → PyData.canLayAll0 xs = true
  | [], _ => rfl
  | x :: xs, h => by
    show (x.canLay0 && PyData.canLayAll0 xs) = true
    rw [h x (List.mem_cons_self ..), canAll_of fun y hy => h y (List.mem_cons_of_mem _ hy)]
    rfl
theorem can_list {xs : List PyData} (h : ∀ x ∈ xs, x.canLay0 = true) : (PyData.list xs).canLay0 = true := canAll_of h
theorem can_tup {xs : List PyData} (h : ∀ x ∈ xs, x.canLay0 = true) : (PyData.tuple xs).canLay0 = true := canAll_of h
theorem can_fr (p : Fr) : (fr p).canLay0 = true := rfl
theorem can_frs (ps : List Fr) : (PyData.tuple (ps.map fr)).canLay0 = true := can_tup fun x hx => by
  obtain ⟨p, _, rfl⟩ := List.mem_map.mp hx
  exact can_fr p
theorem shaped_ok {n : Nat} {x : PyData} (h1 : x.canLay0 = true) (h : okD n x = true) (hn : n ≤ 60) : SeqAt.shaped x = true := by
  obtain ⟨h2, _⟩ := okD_sh n x h
  unfold SeqAt.shaped
  rw [h1, decide_eq_true (show x.depth ≤ 64 by omega)]
  rfl
theorem eqv_self {n : Nat} {x : PyData} (h : okD n x = true) : PyData.eqv x x = true := (okD_sh n x h).2
theorem okAll_of {n : Nat} : ∀ {xs : List PyData}, (∀ x ∈ xs, okD n x = true) → okAll n xs = true
  | [], _ => rfl
  | x :: xs, h => by
    unfold okAll
    rw [h x (List.mem_cons_self ..), okAll_of fun y hy => h y (List.mem_cons_of_mem _ hy)]
    rfl
theorem okD_list {n : Nat} {xs : List PyData} (hl : xs.length ≤ 1000000) (h : ∀ x ∈ xs, okD n x = true) : okD (n + 1) (.list xs) = true := by
  unfold okD
  rw [decide_eq_true hl, okAll_of h]
  rfl
theorem okD_tup {n : Nat} {xs : List PyData} (hl : xs.length ≤ 1000000) (h : ∀ x ∈ xs, okD n x = true) : okD (n + 1) (.tuple xs) = true := by
  unfold okD
  rw [decide_eq_true hl, okAll_of h]
  rfl
theorem okD_fr (n : Nat) (p : Fr) : okD (n + 1) (fr p) = true := by cases n <;> rfl
theorem okD_frs {n : Nat} {ps : List Fr} (hl : ps.length ≤ 1000000) : okD (n + 2) (.tuple (ps.map fr)) = true := okD_tup (by rw [List.length_map]; exact hl) fun x hx => by
  obtain ⟨p, _, rfl⟩ := List.mem_map.mp hx
  exact okD_fr n p
end U

end
section
namespace U
open PySem PyProof.Rows L2 Evl
/-- list + list, both of them only read -/
noncomputable def rCatL (K : Fg) : R2 := fun x y H Q => ∃ a b xs ys, x = .ref a ∧ y = .ref b ∧ SqL K H a xs ∧ SqL K H b ys ∧ xs.length + ys.length ≤ sizeLine ∧ ∀ p, H p = none → Q (.ref p) (upd H p (.lst (xs ++ ys)))
section
variable {X : Cx}
theorem op_catL : OpR X (binaryOp .Add) (rCatL X.K) := by
  intro pins s σ H x y v u Q I rx ry h
  obtain ⟨l, b, xs, zs, rfl, rfl, hH, hB, hz, q⟩ := h
  cases rx
  cases ry
  obtain ⟨its, r, pl, hl⟩ := I.list hH
  obtain ⟨its2, r2, pl2, hl2⟩ := I.list hB
  have h1 := r.length
  have h2 := r2.length
  obtain ⟨⟨cls, dd, data, sl⟩, n, ho, hc, _, hd⟩ := pl
  obtain ⟨⟨cls2, dd2, data2, sl2⟩, n2, ho2, hc2, _, hd2⟩ := pl2
  simp only at hc hd hc2 hd2
  subst hc hd hc2 hd2
  refine concat_meets ⟨_, ho, rfl⟩ ⟨_, ho2, rfl⟩ noFill_list_add seq_list_add F.slot_list_add F.entry_list_add (F.args_list_add_2 _ _) (list_addW l b its.toArray its2.toArray n n2 dd dd2 sl sl2 (by rw [List.size_toArray, List.size_toArray]; omega)) ⟨ho, ho2, ?_⟩
  have ea : its.toArray ++ its2.toArray = (its ++ its2).toArray := by simp
  rw [ea]
  exact ⟨.ref _, _, I.lnew (t' := s.toks) (r.append r2) (by rw [List.length_append]; omega), rfl, q _ I.fresh⟩
end
section
variable {K : Fg} {G G1 G2 : Gam} {s s1 s2 s3 s' : Bag} {ta tb tc te : TE} {t u : TT} {x y z : PyData}
theorem dpa_nil {H : Hp} {vs : List V} {xs : List PyData} (h : DpAll K H vs xs) : vs = [] ↔ xs = [] := by
  cases h with
  | nil => simp
  | cons _ _ => simp
end
end U

end
section
namespace U
open PySem PyProof.Rows L2 Evl
section
variable {K : Fg} {G G1 G2 : Gam} {s s1 s2 s3 s' : Bag} {ta tb tc te : TE} {t u : TT} {x y z : PyData}
/-! ### in, not in: whole numbers -/
theorem inV_ints (i : Int) : ∀ ns : List Int, inV (.int i) (ns.map V.int) = ns.contains i
  | [] => rfl
  | n :: ns => by
    have ih := inV_ints i ns
    unfold inV at ih ⊢
    rw [List.map_cons, List.any_cons, ih, List.contains_cons]
    congr 1
    show (n == i) = (i == n)
    exact Bool.beq_comm
theorem flat_ints : ∀ ns : List Int, (ns.map V.int).all flatV = true
  | [] => rfl
  | n :: ns => by rw [List.map_cons, List.all_cons, flat_ints ns]; rfl
theorem ev_inT {i : Int} {ns : List Int} {neg : Bool} (ha : EvG K ta G s (.int i) s1) (hb : EvG K tb G s1 (.tuple (ns.map PyData.int)) s2) : EvG K (tOp (rIn K neg) ta tb) G s (.bool (if neg then !ns.contains i else ns.contains i)) s2 := fun W B ad H0 H σ S Q q =>
  ha W B ad H0 H σ S _ fun v H1 S1 e1 d1 => hb W B ad H0 H1 σ S1 _ fun w H2 S2 e2 d2 => by
    cases d1
    cases d2 with
    | tup g t =>
      have e := dpa_ints t
      subst e
      exact ⟨_, _, rfl, .inr (ex_t less_ex g), rfl, flat_ints ns, by rw [inV_ints]; exact q _ H2 S2 (e1.trans e2) (.bl _)⟩
/-! ### zip -/
theorem src_zipT {ta : TA} {xs ys : List PyData} (h : EvA K ta G s [.tuple xs, .tuple ys] s1) (hl : xs.length = ys.length) : Src K (RZ.iZipA K ta) G s (List.zipWith (fun x y => .tuple [x, y]) xs ys) s1 := fun W B ad H0 H σ S R q => h W B ad H0 H σ S _ fun vs H1 S1 e1 d1 => by
  obtain ⟨v, w, rfl, d, d2⟩ := dp2 d1
  cases d with
  | @tup a vs _ g t =>
    cases d2 with
    | @tup b ws _ g2 t2 =>
      refine ⟨a, b, vs, ws, rfl, .inr ⟨ex_t less_ex g, ex_t less_ex g2, q _ H1 S1 e1 fun H' Z hz e i => ?_⟩⟩
      have k1 : SqT K H' a vs := ex_t less_ex (ex_t e g)
      have k2 : SqT K H' b ws := ex_t less_ex (ex_t e g2)
      have l1 := dpa_len t
      have l2 := dpa_len t2
      have lz : (List.zipWith (fun x y => PyData.tuple [x, y]) xs ys).length = xs.length := by rw [List.length_zipWith]; omega
      refine ⟨fun d hd => ?_, fun hn => ⟨vs, ws, k1, k2, .inl (by rw [lz] at hn; omega)⟩, fun x H'' hy => ?_⟩
      · have hi := (List.getElem?_eq_some_iff.mp hd).1
        rw [lz] at hi
        obtain ⟨v, hv, _⟩ := dpa_get t (List.getElem?_eq_getElem hi)
        obtain ⟨w, hw, _⟩ := dpa_get t2 (List.getElem?_eq_getElem (i := i) (by omega))
        exact ⟨vs, ws, v, w, k1, k2, hv, hw⟩
      · obtain ⟨T, v, w, rfl, hn, rfl, f1, f2⟩ := hy
        have f1 := f1 vs k1
        have f2 := f2 ws k2
        have ex : Ex H' (upd H' T (.tup [v, w])) := Ex.new hn
        refine ⟨ex, fun d hd => ?_⟩
        rw [List.getElem?_zipWith] at hd
        obtain ⟨x1, hx1, dx⟩ := dpa_at t f1
        obtain ⟨y1, hy1, dy⟩ := dpa_at t2 f2
        rw [hx1, hy1] at hd
        cases hd
        have zn : ¬ Z T := fun z => by
          obtain ⟨o, h⟩ := hz T z
          rw [hn] at h; cases h
        exact .tup (st_of (less_of zn upd_same)) (.cons (dp_mono (e.trans (less_mono ex)) dx) (.cons (dp_mono (e.trans (less_mono ex)) dy) .nil))
/-! ### a comprehension that draws -/
noncomputable def itB (N : Bag → Bag) : Nat → Bag → Bag
  | 0, s => s
  | n + 1, s => N (itB N n s)
noncomputable def drawn (F : Bag → PyData) (N : Bag → Bag) (n : Nat) (s : Bag) : List PyData := (List.range n).map fun i => F (itB N i s)
theorem ev_lcDraw {wi : TI} {g : TG} {vs : List Nat} {ds : List PyData} (h : Src K wi G s ds s1) (F : Bag → PyData) (N : Bag → Bag) (hu : ∀ i e, i ∈ vs → G[i]? = some e → e = .un) (hz : ds.length ≤ 16000000)
    (hs : ∀ x s, x ∈ ds → ∃ Gt, Tgt K g vs G x Gt ∧ EvG K te Gt s (F s) (N s)) : EvG K (tLc wi g tYes te vs) G s (.list (drawn F N ds.length s1)) (itB N ds.length s1) := qt_of (by simp (disch := with_unfolding_all
  have k := ev_lc (K := K) (te := te) (tt := tYes) h (fun i => some (F (itB N i s1))) (fun i => itB N i s1) rfl hu hz fun i x hx => by
    obtain ⟨Gt, a, b⟩ := hs x (itB N i s1) (List.mem_of_getElem? hx)
    exact ⟨Gt, _, a, et_yes, fun y hy => by cases hy; exact b, fun hn => by cases hn⟩
  have e : (List.range ds.length).filterMap (fun i => some (F (itB N i s1))) = drawn F N ds.length s1 := by
    unfold drawn
    exact congrFun List.filterMap_eq_map' _
  rw [e] at k
  exact k
  ) only [↓qt_eq])
end
end U

end
section
namespace U
open PySem PyProof.Rows L2 Evl
local macro_rules | `(tactic| walk_at "ev1a") => do
  let a ← ("ev_ixDisp ev_fst ev_snd ev_add ev_sub ev_mul ev_fdiv ev_mod ev_pow ev_lt ev_le ev_gt ev_ge ev_eqI ev_neI ev_neg ev_subB ev_isNo ev_noNo ev_not et_test et_B et_not ev_abs ev_max ev_min ev_intB ev_gcd ev_frac ev_fadd ev_sign ev_cmpF".splitOn " ").mapM fun (n : String) => `(tacticSeq| with_reducible apply $(Lean.mkIdent n.toName):ident)
  let b := a.toArray
  `(tactic| first $[| $b:tacticSeq]*)
local macro_rules | `(tactic| walk_at "ev1b") => do
  let a ← ("ev_like ev_tup ev_lst ea_cons eo_some ev_order".splitOn " ").mapM fun (n : String) => `(tacticSeq| with_reducible apply $(Lean.mkIdent n.toName):ident)
  let b := a.toArray
  `(tactic| first $[| $b:tacticSeq]*)
local macro_rules | `(tactic| walk_at "ev1") => `(tactic| first
  | exact ev_int | exact ev_bl | exact ev_str | exact ev_non | exact ev_var rfl | exact ea_nil | exact eo_none
  | walk_at "ev1a"
  | with_reducible apply ev_pull rfl
  | walk_at "ev1b"
  | exact ev_part rfl | exact ev_far rfl | exact ev_farPart rfl
  | (with_reducible show List.length _ ≤ 16000000; (simp; done)) | (with_reducible show (0 : Int) < _; decide) | (with_reducible show (_ : Int) < 1000000000000; decide) | (with_reducible show CPow _ _; (unfold CPow; decide)) | (with_reducible show CNz _ _; (unfold CNz; decide))
  | with_reducible apply sg_ret | with_reducible apply sg_asg | with_reducible apply sg_next)
local macro_rules | `(tactic| walk_at "ln") => `(tactic| first | walk_at "ev1" | with_reducible apply sg_seq)
section

section
variable {K : Fg}
noncomputable def t_order (K : Fg) : TS := (tSeq (tAsg (tOp (rI0 fun i j => V.int (i - j)) (tOp (rI CMulW fun i j => V.int (i * j)) (tOp (rIx K) (tVar 0) (tC (V.int 0))) (tOp (rIx K) (tVar 1) (tC (V.int 1)))) (tOp (rI CMulW fun i j => V.int (i * j)) (tOp (rIx K) (tVar 1) (tC (V.int 0))) (tOp (rIx K) (tVar 0) (tC (V.int 1))))) (gName 2))
  (tRet (tOp rSubB (tOp (rI0 fun i j => V.bl (decide (j < i))) (tVar 2) (tC (V.int 0))) (tOp (rI0 fun i j => V.bl (decide (i < j))) (tVar 2) (tC (V.int 0))))))
-- slots of order: 0 one, 1 other, 2 gap
theorem ln_order : ∀ ds r, P_order ds r → ds.length = 2 := fun ds r h => by obtain ⟨p, q, rfl, _⟩ := h; rfl
theorem rd_order {ds r} (h : P_order ds r) (b : Bag) : SG K (t_order K) (frame 3 ds) b (.rt r b) := by
  obtain ⟨p, q, rfl, hp, hq, rfl⟩ := h
  unfold t_order
  apply sg_is
  (repeat' walk_at "ln")
  all_goals first | exact Bd.cm hp.1 hq.2 (by decide) | exact Bd.cm hq.1 hp.2 (by decide) | rfl
noncomputable def t__law_gcd (K : Fg) : TS := (tSeq (tAsg (tCB rAbs (tCons (tVar 0) tNil)) (gName 0))
  (tSeq (tAsg (tCB rAbs (tCons (tVar 1) tNil)) (gName 1))
  (tSeq (tWhile (tTest (tOp (rI0 fun i j => V.bl (decide (j < i))) (tVar 1) (tC (V.int 0)))) (tSeq (tAsg (tVar 1) (gName 2))
  (tSeq (tAsg (tOp (rI CNz fun i j => V.int (i.fmod j)) (tVar 0) (tVar 1)) (gName 1))
  (tAsg (tVar 2) (gName 0)))))
  (tRet (tCB rMx (tCons (tC (V.int 1)) (tCons (tVar 0) tNil)))))))
-- slots of _law_gcd: 0 _law_one, 1 _law_other, 2 _law_kept
theorem ln__law_gcd : ∀ ds r, P_gcd ds r → ds.length = 2 := fun ds r h => by obtain ⟨p, q, rfl, _⟩ := h; rfl
theorem rd__law_gcd {ds r} (h : P_gcd ds r) (b : Bag) : SG K (t__law_gcd K) (frame 3 ds) b (.rt r b) := qt_of (by simp (disch := with_unfolding_all
  obtain ⟨x, y, rfl, rfl⟩ := h
  unfold t__law_gcd
  obtain ⟨n, h1, h2⟩ := eu_end y.natAbs x.natAbs
  apply sg_is
  apply sg_seq
  (repeat' walk_at "ev1")
  apply sg_seq
  (repeat' walk_at "ev1")
  apply sg_seq
  · refine sg_while (s' := b) (fun i => [.d (.int (eu x.natAbs y.natAbs i).1), .d (.int (eu x.natAbs y.natAbs i).2), .un]) (fun _ => b) (fun _ => b) n ?_ rfl (fun i hi => ?_) (fun i hi => .inl ?_) ?_
    · show Wk [.d (.int (absI x)), .d (.int (absI y)), .un] _
      rw [absI_nat, absI_nat]
      exact .refl _
    · refine et_is (by (repeat' walk_at "ev1")) ?_
      have := h2 i hi
      simp; omega
    · have hy := h2 i hi
      refine sg_wk (G1 := [.d (.int (eu x.natAbs y.natAbs (i + 1)).1), .d (.int (eu x.natAbs y.natAbs (i + 1)).2), .d (.int (eu x.natAbs y.natAbs i).2)]) ?_ (.cons (.cons (.drop .nil)))
      apply sg_is
      (repeat' walk_at "ln")
      · show ((eu x.natAbs y.natAbs i).2 : Int) ≠ 0
        omega
      · rw [fmod_nat]
        rfl
    · refine et_is (by (repeat' walk_at "ev1")) ?_
      rw [h1]
      rfl
  · rw [h1]
    (repeat' walk_at "ev1")
  · show Out.rt (.int (maxI 1 _)) b = _
    rw [max_gN]
  ) only [↓qt_eq])
noncomputable def t__law_frac (K : Fg) : TS := (tSeq (tAsg (tCall (spP K P_gcd) [] E0 (tCons (tVar 0) (tCons (tVar 1) tNil))) (gName 2))
  (tSeq (tIfS (tTest (tOp (rI0 fun i j => V.bl (decide (i < j))) (tVar 1) (tC (V.int 0)))) (tAsg (tUn (rU fun i => V.int (-i)) (tVar 2)) (gName 2)) tNext)
  (tRet (tTup (tCons (tOp (rI CDvX fun i j => V.int (i.fdiv j)) (tVar 0) (tVar 2)) (tCons (tOp (rI CDvX fun i j => V.int (i.fdiv j)) (tVar 1) (tVar 2)) tNil))))))
-- slots of _law_frac: 0 _law_above, 1 _law_below, 2 _law_divisor
theorem ln__law_frac : ∀ ds r, P_frac ds r → ds.length = 2 := fun ds r h => by obtain ⟨p, q, rfl, _⟩ := h; rfl
theorem rd__law_frac {ds r} (h : P_frac ds r) (b : Bag) : SG K (t__law_frac K) (frame 3 ds) b (.rt r b) := qt_of (by simp (disch := with_unfolding_all
  obtain ⟨x, y, rfl, hx, hy, rfl⟩ := h
  unfold t__law_frac
  have hg := gI_pos x y
  have hb : Bd 7991 (gI x y) := Bd.g hx hy
  apply sg_seq
  (repeat' walk_at "ev1")
  apply sg_when
  (repeat' walk_at "ev1")
  · intro h
    have h := of_decide_eq_true h
    apply sg_is
    (repeat' walk_at "ln")
    · exact Bd.dv (by omega) hb.neg (by decide)
    · exact Bd.dv (by omega) hb.neg (by decide)
    · show Out.rt (fr (x.fdiv (-gI x y), y.fdiv (-gI x y))) b = Out.rt (fr (fracF x y)) b
      unfold fracF
      rw [if_pos h]
  · intro h
    have h := of_decide_eq_false h
    apply sg_is
    (repeat' walk_at "ln")
    · exact Bd.dv (by omega) hb (by decide)
    · exact Bd.dv (by omega) hb (by decide)
    · show Out.rt (fr (x.fdiv (gI x y), y.fdiv (gI x y))) b = Out.rt (fr (fracF x y)) b
      unfold fracF
      rw [if_neg h]
  ) only [↓qt_eq])
noncomputable def t__law_add (K : Fg) : TS := (tRet (tCall (spP K P_frac) [] E0 (tCons (tOp (rI0 fun i j => V.int (i + j)) (tOp (rI CMulW fun i j => V.int (i * j)) (tOp (rIx K) (tVar 0) (tC (V.int 0))) (tOp (rIx K) (tVar 1) (tC (V.int 1)))) (tOp (rI CMulW fun i j => V.int (i * j)) (tOp (rIx K) (tVar 1) (tC (V.int 0))) (tOp (rIx K) (tVar 0) (tC (V.int 1))))) (tCons (tOp (rI CMulW fun i j => V.int (i * j)) (tOp (rIx K) (tVar 0) (tC (V.int 1))) (tOp (rIx K) (tVar 1) (tC (V.int 1)))) tNil))))
-- slots of _law_add: 0 _law_one, 1 _law_other
theorem ln__law_add : ∀ ds r, P_add ds r → ds.length = 2 := fun ds r h => by obtain ⟨_, _, p, q, rfl, _⟩ := h; rfl
theorem rd__law_add {ds r} (h : P_add ds r) (b : Bag) : SG K (t__law_add K) (frame 2 ds) b (.rt r b) := qt_of (by simp (disch := with_unfolding_all
  obtain ⟨n, m, p, q, rfl, hp, hq, hl, rfl⟩ := h
  exact sg_ret (ev_fracN (ev_add (ev_mul (ev_fst (ev_var rfl)) (ev_snd (ev_var rfl)) (hp.1.cm hq.2 (by omega))) (ev_mul (ev_fst (ev_var rfl)) (ev_snd (ev_var rfl)) (hq.1.cm hp.2 (by omega)))) (ev_mul (ev_snd (ev_var rfl)) (ev_snd (ev_var rfl)) (hp.2.cm hq.2 (by omega)))
    ((Bd.add (hp.1.mul hq.2) (by rw [Nat.add_comm n m]; exact hq.1.mul hp.2)).mono (by omega)) ((hp.2.mul hq.2).mono (by omega)))
  ) only [↓qt_eq])
noncomputable def t__law_sign (K : Fg) : TS := (tRet (tOp (rI0 fun i j => V.int (i - j)) (tCB rInt1 (tCons (tOp (rI0 fun i j => V.bl (decide (j < i))) (tVar 0) (tC (V.int 0))) tNil)) (tCB rInt1 (tCons (tOp (rI0 fun i j => V.bl (decide (i < j))) (tVar 0) (tC (V.int 0))) tNil))))
-- slots of _law_sign: 0 _law_number
theorem ln__law_sign : ∀ ds r, P_sign ds r → ds.length = 1 := fun ds r h => by obtain ⟨p, rfl, _⟩ := h; rfl
theorem rd__law_sign {ds r} (h : P_sign ds r) (b : Bag) : SG K (t__law_sign K) (frame 1 ds) b (.rt r b) := by
  obtain ⟨p, rfl, rfl⟩ := h
  unfold t__law_sign
  apply sg_is
  (repeat' walk_at "ln")
  rfl
noncomputable def t__law_cmp (K : Fg) : TS := (tRet (tCall (spP K P_sign) [] E0 (tCons (tOp (rI0 fun i j => V.int (i - j)) (tOp (rI CMulW fun i j => V.int (i * j)) (tOp (rIx K) (tVar 0) (tC (V.int 0))) (tOp (rIx K) (tVar 1) (tC (V.int 1)))) (tOp (rI CMulW fun i j => V.int (i * j)) (tOp (rIx K) (tVar 1) (tC (V.int 0))) (tOp (rIx K) (tVar 0) (tC (V.int 1))))) tNil)))
-- slots of _law_cmp: 0 _law_one, 1 _law_other
theorem ln__law_cmp : ∀ ds r, P_cmp ds r → ds.length = 2 := fun ds r h => by obtain ⟨p, q, rfl, _⟩ := h; rfl
theorem rd__law_cmp {ds r} (h : P_cmp ds r) (b : Bag) : SG K (t__law_cmp K) (frame 2 ds) b (.rt r b) := by
  obtain ⟨p, q, rfl, hp, hq, rfl⟩ := h
  unfold t__law_cmp
  apply sg_is
  (repeat' walk_at "ln")
  all_goals first | exact Bd.cm hp.1 hq.2 (by decide) | exact Bd.cm hq.1 hp.2 (by decide) | rfl
noncomputable def t__law_part (K : Fg) : TS := (tRet (tCall (spP K P_frac) [] E0 (tCons (tOp (rI0 fun i j => V.int (i - j)) (tCall (spB K P_pull) [] E0 (tCons (tVar 0) (tCons (tC (V.int 13)) tNil))) (tC (V.int 6))) (tCons (tOp (rIx K) (tLst (tCons (tC (V.int 1)) (tCons (tC (V.int 1)) (tCons (tC (V.int 2)) (tCons (tC (V.int 3)) tNil))))) (tCall (spB K P_pull) [] E0 (tCons (tVar 0) (tCons (tC (V.int 4)) tNil)))) tNil))))
-- slots of _law_part: 0 _law_bag_here
theorem ln__law_part : ∀ s ds r s', P_part s ds r s' → ds.length + 1 = 1 := fun s ds r s' h => by obtain ⟨rfl, _⟩ := h; rfl
theorem rd__law_part {s ds r s'} (h : P_part s ds r s') (ok : s.ok) : SG K (t__law_part K) (.bag :: frame 0 ds) s (.rt r s') := qt_of (by simp (disch := with_unfolding_all
  obtain ⟨rfl, rfl, rfl⟩ := h
  unfold t__law_part
  obtain ⟨z1, z2⟩ := pullV_range s (n := 13) (by decide)
  obtain ⟨y1, y2⟩ := pullV_range (pullS s 13) (n := 4) (by decide)
  have hm := menu_mem (l := [1, 1, 2, 3]) y1 y2
  apply sg_is
  (repeat' walk_at "ln")
  all_goals first | exact menu_at (l := [1, 1, 2, 3]) y1 y2 | skip
  · unfold Bd; omega
  · refine Bd.mono (n := 10) ?_ (by decide)
    generalize menu _ _ = m at hm
    simp only [List.mem_cons, List.not_mem_nil, or_false] at hm
    unfold Bd; omega
  · rfl
  ) only [↓qt_eq])
-- slots of _law_far: 0 _law_bag_here
-- slots of _law_far_part: 0 _law_bag_here
noncomputable def t__law_pull (K : Fg) : TS := (tSeq (tAsg (tOp (rIx K) (tVar 0) (tC (V.int 0))) (gName 2))
  (tSeq (tAsg (tC (V.int 0)) (gName 3))
  (tSeq (tIfS (tTest (tOp (rI0 fun i j => V.bl (decide (j < i))) (tCB (rLenQ K) (tCons (tVar 2) tNil)) (tC (V.int 0)))) (tSeq (tAsg (tOp (rI CNz fun i j => V.int (i.fmod j)) (tOp (rIx K) (tVar 0) (tC (V.int 1))) (tCB (rLenQ K) (tCons (tVar 2) tNil))) (gName 4))
  (tSeq (tAsg (tOp (rIx K) (tVar 2) (tVar 4)) (gName 3))
  (tIfS (tTest (tOp (rI0 fun i j => V.bl (decide (j ≤ i))) (tCB rAbs (tCons (tVar 3) tNil)) (tOp (rI CPow fun i j => V.int (i ^ j.toNat)) (tC (V.int 10)) (tC (V.int 18))))) (tSeq (tAsg (tOp (rI CDvX fun i j => V.int (i.fdiv j)) (tVar 3) (tVar 1)) (gSub (tVar 2) (tVar 4) rSetL))
  (tRet (tOp (rI CNz fun i j => V.int (i.fmod j)) (tVar 3) (tVar 1)))) tNext))) tNext)
  (tSeq (tAsg (tOp (rI0 fun i j => V.int (i + j)) (tOp (rIx K) (tVar 0) (tC (V.int 1))) (tC (V.int 1))) (gSub (tVar 0) (tC (V.int 1)) rSetL))
  (tSeq (tAsg (tOp (rI CNz fun i j => V.int (i.fmod j)) (tOp (rI0 fun i j => V.int (i + j)) (tOp (rI0 fun i j => V.int (i + j)) (tOp (rI CMulW fun i j => V.int (i * j)) (tOp (rIx K) (tVar 0) (tC (V.int 2))) (tC (V.int 48271))) (tOp (rI CNz fun i j => V.int (i.fmod j)) (tVar 3) (tC (V.int 1000003)))) (tOp (rIx K) (tVar 0) (tC (V.int 1)))) (tC (V.int 2147483647))) (gSub (tVar 0) (tC (V.int 2)) rSetL))
  (tRet (tOp (rI CNz fun i j => V.int (i.fmod j)) (tOp (rI CDvX fun i j => V.int (i.fdiv j)) (tOp (rI CNz fun i j => V.int (i.fmod j)) (tOp (rI0 fun i j => V.int (i + j)) (tOp (rI CMulW fun i j => V.int (i * j)) (tOp (rIx K) (tVar 0) (tC (V.int 2))) (tC (V.int 69621))) (tOp (rI CDvX fun i j => V.int (i.fdiv j)) (tOp (rIx K) (tVar 0) (tC (V.int 2))) (tC (V.int 65536)))) (tC (V.int 2147483629))) (tC (V.int 32))) (tVar 1))))))))
-- slots of _law_pull: 0 _law_bag_here, 1 _law_size, 2 _law_cells, 3 _law_cell, 4 _law_spot
theorem ln__law_pull : ∀ s ds r s', P_pull s ds r s' → ds.length + 1 = 2 := fun s ds r s' h => by obtain ⟨n, rfl, _⟩ := h; rfl
theorem bag_ne {H : Hp} {b c : Addr} {s : Bag} (h : BagAt H (some (b, c)) s) : b ≠ c := fun e => by
  have h1 := h.1
  have h2 := h.2.1
  rw [e, h2] at h1
  have h3 := HO.lst.inj (Option.some.inj h1)
  cases hc : s.cs with
  | nil => rw [hc] at h3; cases h3
  | cons x r => rw [hc] at h3; cases h3
theorem rd_pullTail {D : Ends} {H : Hp} {b c : Addr} {s : Bag} {cell n : Int} {x4 : Option V} (hB : BagAt H (some (b, c)) s) (h0 : 0 < n)
    (q : ∀ H', (∀ a o, H a = some o → ¬ InB (some (b, c)) a → H' a = some o) → BagAt H' (some (b, c)) ⟨s.cs, s.i + 1, (s.j * 48271 + cell.fmod 1000003 + (s.i + 1)).fmod 2147483647⟩ →
      D.rt (.int (((((s.j * 48271 + cell.fmod 1000003 + (s.i + 1)).fmod 2147483647) * 69621 + ((s.j * 48271 + cell.fmod 1000003 + (s.i + 1)).fmod 2147483647).fdiv 65536).fmod 2147483629).fdiv 32 |>.fmod n)) H') :
    (tSeq (tAsg (tOp (rI0 fun i j => V.int (i + j)) (tOp (rIx K) (tVar 0) (tC (V.int 1))) (tC (V.int 1))) (gSub (tVar 0) (tC (V.int 1)) rSetL))
  (tSeq (tAsg (tOp (rI CNz fun i j => V.int (i.fmod j)) (tOp (rI0 fun i j => V.int (i + j)) (tOp (rI0 fun i j => V.int (i + j)) (tOp (rI CMulW fun i j => V.int (i * j)) (tOp (rIx K) (tVar 0) (tC (V.int 2))) (tC (V.int 48271))) (tOp (rI CNz fun i j => V.int (i.fmod j)) (tVar 3) (tC (V.int 1000003)))) (tOp (rIx K) (tVar 0) (tC (V.int 1)))) (tC (V.int 2147483647))) (gSub (tVar 0) (tC (V.int 2)) rSetL))
  (tRet (tOp (rI CNz fun i j => V.int (i.fmod j)) (tOp (rI CDvX fun i j => V.int (i.fdiv j)) (tOp (rI CNz fun i j => V.int (i.fmod j)) (tOp (rI0 fun i j => V.int (i + j)) (tOp (rI CMulW fun i j => V.int (i * j)) (tOp (rIx K) (tVar 0) (tC (V.int 2))) (tC (V.int 69621))) (tOp (rI CDvX fun i j => V.int (i.fdiv j)) (tOp (rIx K) (tVar 0) (tC (V.int 2))) (tC (V.int 65536)))) (tC (V.int 2147483629))) (tC (V.int 32))) (tVar 1))))) D
    [some (.ref b), some (.int n), some (.ref c), some (.int cell), x4] H := qt_of (by simp (disch := with_unfolding_all
  obtain ⟨hb, hc, h1, h2, h3⟩ := id hB
  have nbc : b ≠ c := bag_ne hB
  have mulj : ∀ {x y : Int}, 0 ≤ x → x < 2147483647 → Bd 40 y → CMulW x y := fun {x y} a b c => Bd.cm (n := 31) (m := 40) (by unfold Bd; omega) c (by decide)
  generalize hj : (s.j * 48271 + cell.fmod 1000003 + (s.i + 1)).fmod 2147483647 = j at q
  have hjr : 0 ≤ j ∧ j < 2147483647 := by rw [← hj]; exact fmod_range _ (by decide)
  -- bag[1] = bag[1] + 1
  refine ⟨_, rfl, .inl ⟨b, _, 1, .int s.i, rfl, rfl, sq_of hb, rfl, _, _, rfl, rfl, _, rfl, b, _, 1, 1, rfl, rfl, hb, rfl, ?_⟩⟩
  -- bag[2] = ..
  refine ⟨_, rfl, .inl ⟨b, _, 2, .int s.j, rfl, rfl, sq_of upd_same, rfl, _, _, rfl, rfl, mulj h2 h3 (by unfold Bd; decide), _, rfl, _, _, rfl, rfl, (by show (1000003 : Int) ≠ 0; decide), _, _, rfl, rfl, _, rfl, .inl ⟨b, _, 1, .int (s.i + 1), rfl, rfl, sq_of upd_same, rfl, _, _, rfl, rfl, _, _, rfl, rfl, (by show (2147483647 : Int) ≠ 0; decide), _, rfl, b, _, 2, 2, rfl, rfl, upd_same, rfl, ?_⟩⟩⟩
  dsimp only
  rw [hj]
  -- return
  refine ⟨_, rfl, .inl ⟨b, _, 2, .int j, rfl, rfl, sq_of upd_same, rfl, _, _, rfl, rfl, mulj hjr.1 hjr.2 (by unfold Bd; decide), _, rfl, .inl ⟨b, _, 2, .int j, rfl, rfl, sq_of upd_same, rfl, _, _, rfl, rfl, ⟨by decide, by decide⟩, _, _, rfl, rfl, _, _, rfl, rfl, (by show (2147483629 : Int) ≠ 0; decide), _, _, rfl, rfl, ⟨by decide, by decide⟩, _, rfl, _, _, rfl, rfl, ?_, ?_⟩⟩⟩
  · show n ≠ 0
    omega
  · refine q _ (fun a o h z => ?_) ⟨upd_same, ?_, h1, hjr.1, hjr.2⟩
    · have na : a ≠ b := fun e => z ⟨b, c, rfl, .inl e⟩
      rw [upd_ne na, upd_ne na]; exact h
    · rw [upd_ne nbc.symm, upd_ne nbc.symm]; exact hc
  ) only [↓qt_eq])
theorem rd__law_pull {D : Ends} {W : Addr → Prop} {H : Hp} {b c : Addr} {s : Bag} {n : Int} (hB : BagAt H (some (b, c)) s) (h0 : 0 < n) (h1 : n < 1000000000000)
    (q : ∀ (v : V) (H' : Hp), (∀ (a : Addr) (o : HO), H a = some o → ¬InB (some (b, c)) a → H' a = some o) → BagAt H' (some (b, c)) (pullS s n) → Dp K (less H' fun a => W a ∨ InB (some (b, c)) a) v (PyData.int (pullV s n)) → D.rt v H') :
    t__law_pull K D [some (.ref b), some (.int n), none, none, none] H := qt_of (by simp (disch := with_unfolding_all
  obtain ⟨hb, hc, k1, k2, k3⟩ := id hB
  have nbc : b ≠ c := bag_ne hB
  unfold t__law_pull
  refine ⟨_, rfl, .inl ⟨b, _, 0, .ref c, rfl, rfl, sq_of hb, rfl, ?_⟩⟩
  have lc : SqL K H c (s.cs.map V.int) := sq_of hc
  refine ⟨_, rfl, c, _, rfl, .inl lc, _, _, rfl, rfl, _, rfl, ?_⟩
  rw [List.length_map]
  refine ite2 (fun h => ?_) (fun h => ?_)
  · have hl : 0 < s.cs.length := by have := of_decide_eq_true h; omega
    have hsp := fmod_range s.i (n := (s.cs.length : Int)) (by omega)
    obtain ⟨k, hk⟩ : ∃ k : Nat, s.i.fmod s.cs.length = (k : Int) := ⟨(s.i.fmod s.cs.length).toNat, by omega⟩
    have kl : k < s.cs.length := by omega
    have gk : (s.cs.map V.int)[k]? = some (.int s.cs[k]) := by rw [List.getElem?_map, List.getElem?_eq_getElem kl]; rfl
    have ec : cellOf s = s.cs[k] := by
      unfold cellOf
      rw [if_neg (by omega), hk, Int.toNat_natCast, List.getD_eq_getElem?_getD, List.getElem?_eq_getElem kl]
      rfl
    refine ⟨_, rfl, .inl ⟨b, _, 1, .int s.i, rfl, rfl, sq_of hb, rfl, _, rfl, c, _, rfl, .inl lc, _, _, rfl, rfl, ?_, ?_⟩⟩
    · show ((s.cs.map V.int).length : Int) ≠ 0
      rw [List.length_map]; omega
    rw [List.length_map]
    dsimp only
    rw [hk]
    refine ⟨_, rfl, _, rfl, .inl ⟨c, _, (k : Int), _, rfl, rfl, lc, atI_nat gk, ?_⟩⟩
    refine ⟨_, rfl, _, rfl, _, _, rfl, rfl, (by unfold CPow; decide), _, _, rfl, rfl, _, rfl, ?_⟩
    have e18 : (10 : Int) ^ (18 : Int).toNat = 1000000000000000000 := by decide
    rw [e18]
    refine ite2 (fun h2 => ?_) (fun h2 => ?_)
    · have hbig : 1000000000000000000 ≤ absI (cellOf s) := by
        rw [ec]; exact of_decide_eq_true h2
      have ep : pull s n = ((cellOf s).fmod n, ⟨s.cs.set k ((cellOf s).fdiv n), s.i, s.j⟩) := by
        unfold pull
        rw [if_pos ⟨hl, hbig⟩, hk, Int.toNat_natCast]
      refine ⟨_, rfl, _, rfl, _, _, rfl, rfl, ⟨by omega, ?_⟩, _, rfl, _, rfl, c, _, (k : Int), k, rfl, rfl, hc, ?_, ?_⟩
      · have : n.natAbs < 2 ^ 40 := by omega
        have := PySem.Flt.log2_lt_of (by decide) this
        omega
      · exact ixN_nat (by rw [List.length_map]; exact kl)
      · refine ⟨_, rfl, _, rfl, _, _, rfl, rfl, (by show n ≠ 0; omega), ?_⟩
        refine q _ _ (fun a o h z => ?_) ?_ ?_
        · rw [upd_ne (fun e => z ⟨b, c, rfl, .inr e⟩)]; exact h
        · unfold pullS
          rw [ep]
          refine ⟨by rw [upd_ne nbc]; exact hb, ?_, by rw [List.length_set]; exact k1, k2, k3⟩
          rw [upd_same, List.map_set, ec]
        · unfold pullV
          rw [ep, ec]
          exact .int _
    · have hbig : ¬ 1000000000000000000 ≤ absI (cellOf s) := fun z => h2 (decide_eq_true (by rw [ec] at z; exact z))
      refine rd_pullTail hB h0 fun H' e hB' => ?_
      have ep : pull s n = (((((s.j * 48271 + (cellOf s).fmod 1000003 + (s.i + 1)).fmod 2147483647) * 69621 + ((s.j * 48271 + (cellOf s).fmod 1000003 + (s.i + 1)).fmod 2147483647).fdiv 65536).fmod 2147483629).fdiv 32 |>.fmod n, ⟨s.cs, s.i + 1, (s.j * 48271 + (cellOf s).fmod 1000003 + (s.i + 1)).fmod 2147483647⟩) := by
        unfold pull
        rw [if_neg (fun z => hbig z.2)]
      refine q _ _ e ?_ ?_
      · unfold pullS
        rw [ep, ec]; exact hB'
      · unfold pullV
        rw [ep, ec]; exact .int _
  · have hl : s.cs.length = 0 := by
      have := of_decide_eq_false (eq_false_of_ne_true h)
      omega
    have ec : cellOf s = 0 := by unfold cellOf; rw [if_pos hl]
    refine rd_pullTail hB h0 fun H' e hB' => ?_
    have ep : pull s n = (((((s.j * 48271 + (cellOf s).fmod 1000003 + (s.i + 1)).fmod 2147483647) * 69621 + ((s.j * 48271 + (cellOf s).fmod 1000003 + (s.i + 1)).fmod 2147483647).fdiv 65536).fmod 2147483629).fdiv 32 |>.fmod n, ⟨s.cs, s.i + 1, (s.j * 48271 + (cellOf s).fmod 1000003 + (s.i + 1)).fmod 2147483647⟩) := by
      unfold pull
      rw [if_neg (fun z => by omega)]
    refine q _ _ e ?_ ?_
    · unfold pullS
      rw [ep, ec]; exact hB'
    · unfold pullV
      rw [ep, ec]; exact .int _
  ) only [↓qt_eq])
end

end
end U
end
section
namespace U
open PySem PyProof.Rows L2 Evl
theorem kit_NoneType_bool : kitB "NoneType" "bool" = some false := by decide +kernel
theorem kit_NoneType_int : kitB "NoneType" "int" = some false := by decide +kernel
theorem kit_NoneType_str : kitB "NoneType" "str" = some false := by decide +kernel
theorem kit_NoneType_list : kitB "NoneType" "list" = some false := by decide +kernel
theorem kit_NoneType_tuple : kitB "NoneType" "tuple" = some false := by decide +kernel
theorem kit_bool_bool : kitB "bool" "bool" = some true := by decide +kernel
theorem kit_bool_int : kitB "bool" "int" = some true := by decide +kernel
theorem kit_bool_list : kitB "bool" "list" = some false := by decide +kernel
theorem kit_bool_tuple : kitB "bool" "tuple" = some false := by decide +kernel
theorem kit_int_bool : kitB "int" "bool" = some false := by decide +kernel
theorem kit_int_int : kitB "int" "int" = some true := by decide +kernel
theorem kit_int_list : kitB "int" "list" = some false := by decide +kernel
theorem kit_int_tuple : kitB "int" "tuple" = some false := by decide +kernel
theorem kit_str_bool : kitB "str" "bool" = some false := by decide +kernel
theorem kit_str_int : kitB "str" "int" = some false := by decide +kernel
theorem kit_str_str : kitB "str" "str" = some true := by decide +kernel
theorem kit_str_list : kitB "str" "list" = some false := by decide +kernel
theorem kit_str_tuple : kitB "str" "tuple" = some false := by decide +kernel
theorem kit_list_bool : kitB "list" "bool" = some false := by decide +kernel
theorem kit_list_int : kitB "list" "int" = some false := by decide +kernel
theorem kit_list_list : kitB "list" "list" = some true := by decide +kernel
theorem kit_list_tuple : kitB "list" "tuple" = some false := by decide +kernel
theorem kit_tuple_bool : kitB "tuple" "bool" = some false := by decide +kernel
theorem kit_tuple_int : kitB "tuple" "int" = some false := by decide +kernel
theorem kit_tuple_list : kitB "tuple" "list" = some false := by decide +kernel
theorem kit_tuple_tuple : kitB "tuple" "tuple" = some true := by decide +kernel
local macro_rules | `(tactic| walk_at "ev1a") => do
  let a ← ("ev_ixDisp ev_fst ev_snd ev_add ev_sub ev_mul ev_fdiv ev_mod ev_pow ev_lt ev_le ev_gt ev_ge ev_eqI ev_neI ev_neg ev_subB ev_isNo ev_noNo ev_not et_test et_B et_not ev_abs ev_max ev_min ev_intB ev_gcd ev_frac ev_fadd ev_sign ev_cmpF".splitOn " ").mapM fun (n : String) => `(tacticSeq| with_reducible apply $(Lean.mkIdent n.toName):ident)
  let b := a.toArray
  `(tactic| first $[| $b:tacticSeq]*)
local macro_rules | `(tactic| walk_at "ev1b") => do
  let a ← ("ev_like ev_tup ev_lst ea_cons eo_some ev_order".splitOn " ").mapM fun (n : String) => `(tacticSeq| with_reducible apply $(Lean.mkIdent n.toName):ident)
  let b := a.toArray
  `(tactic| first $[| $b:tacticSeq]*)
local macro_rules | `(tactic| walk_at "ev1") => `(tactic| first
  | exact ev_int | exact ev_bl | exact ev_str | exact ev_non | exact ev_var rfl | exact ea_nil | exact eo_none
  | walk_at "ev1a"
  | with_reducible apply ev_pull rfl
  | walk_at "ev1b"
  | exact ev_part rfl | exact ev_far rfl | exact ev_farPart rfl
  | (with_reducible show List.length _ ≤ 16000000; (simp; done)) | (with_reducible show (0 : Int) < _; decide) | (with_reducible show (_ : Int) < 1000000000000; decide) | (with_reducible show CPow _ _; (unfold CPow; decide)) | (with_reducible show CNz _ _; (unfold CNz; decide))
  | with_reducible apply sg_ret | with_reducible apply sg_asg | with_reducible apply sg_next)
local macro_rules | `(tactic| walk_at "ln") => `(tactic| first | walk_at "ev1" | with_reducible apply sg_seq)

section
variable {K : Fg}
theorem fnok_false {Pg : Program} {w : World} {mg : Str → Option Value} {base : Heap} {CX : CXT} {k : Nat} {f : Addr} {fd : FuncData} {ps : List Str} : FnOk Pg w K mg base CX k f fd ps (spP K fun _ _ => False) :=
  ⟨fun vs H Q E h => by obtain ⟨_, _, _, _, _, h, _⟩ := h; exact h.elim, fun A outer s H args us vs Q E _ _ _ _ h => by obtain ⟨_, _, _, _, _, h, _⟩ := h; exact h.elim⟩
/-! _law_bag -/
noncomputable def t__law_bag (K : Fg) : TS := (tRet (tLst (tCons (tCB (rListQ K) (tCons (tSl (rSlL K) (tVar 0) tNoPart (tPart (tC (V.int 63)))) tNil)) (tCons (tC (V.int 0)) (tCons (tC (V.int 20011)) tNil)))))
-- slots of _law_bag: 0 _law_script
theorem cut63 {xs : List V} (h : xs.length ≤ 63) : cutV xs none (some 63) = xs := qt_of (by simp (disch := with_unfolding_all
  unfold cutV
  rw [HT.sIx_none, show HT.sIx xs.length xs.length (some 63) = min 63 xs.length from HT.sIx_nat xs.length xs.length 63, Nat.min_eq_right h, List.drop_zero, Nat.sub_zero, List.take_length]
  ) only [↓qt_eq])
theorem rd__law_bag {D : Ends} {W : Addr → Prop} {H : Hp} {v : V} {ns : List Int} (hd : Dp K (less H W) v (.list (ns.map PyData.int))) (hl : ns.length ≤ 63)
    (q : ∀ b c H', Ex H H' → H b = none → H c = none → BagAt H' (some (b, c)) (bag0 ns) → D.rt (.ref b) H') : t__law_bag K D [some v] H := qt_of (by simp (disch := with_unfolding_all
  cases hd with
  | @lst a vs _ g t =>
    have e := dpa_ints t
    subst e
    have g' : SqL K H a (ns.map V.int) := ex_l less_ex g
    have ll : (ns.map V.int).length ≤ 63 := by rw [List.length_map]; exact hl
    unfold t__law_bag
    refine ⟨.ref a, rfl, 63, rfl, a, _, rfl, g', fun p hp => ?_⟩
    rw [cut63 ll]
    refine ⟨p, _, rfl, .inl (sq_of upd_same), fun c hc => ?_⟩
    refine ⟨by show 3 ≤ sizeLine; decide, fun b hb => ?_⟩
    have e1 : Ex H (upd H p (.lst (ns.map V.int))) := Ex.new hp
    have e2 := e1.trans (Ex.new (o := .lst (ns.map V.int)) hc)
    have nbc : c ≠ b := fun z => by
      rw [← z, upd_same] at hb; cases hb
    refine q b c _ (e2.trans (Ex.new hb)) (fresh_back e2 hb) (fresh_back e1 hc) ⟨upd_same, ?_, hl, by show (0 : Int) ≤ 20011; decide, by show (20011 : Int) < 2147483647; decide⟩
    rw [upd_ne nbc, upd_same]
    rfl
  ) only [↓qt_eq])
/-! _law_like -/
noncomputable def t__law_like (K : Fg) (n : Nat) : TS := (tSeq (tIfS (tB (tCB (rIsiT K) (tCons (tVar 1) (tCons (tTup (tCons (tC (V.ty "tuple")) (tCons (tC (V.ty "list")) tNil))) tNil)))) (tSeq (tIfS (tTest (tOp rNe (tCB (rIsi K) (tCons (tVar 0) (tCons (tC (V.ty "tuple")) tNil))) (tCB (rIsi K) (tCons (tVar 1) (tCons (tC (V.ty "tuple")) tNil))))) (tRet (tC (V.bl false))) tNext)
  (tSeq (tIfS (tOr (tNot (tB (tCB (rIsiT K) (tCons (tVar 0) (tCons (tTup (tCons (tC (V.ty "tuple")) (tCons (tC (V.ty "list")) tNil))) tNil))))) (tTest (tOp rNe (tCB (rLenQ K) (tCons (tVar 0) tNil)) (tCB (rLenQ K) (tCons (tVar 1) tNil))))) (tRet (tC (V.bl false))) tNext)
  (tRet (tCB (rAll K) (tCons (tLc (iRng1 (tCons (tCB (rLenQ K) (tCons (tVar 1) tNil)) tNil)) (gName 2) tYes (tCall (spP K (P_like n)) [] E0 (tCons (tOp (rIx K) (tVar 0) (tVar 2)) (tCons (tOp (rIx K) (tVar 1) (tVar 2)) tNil))) [2]) tNil))))) tNext)
  (tSeq (tIfS (tB (tCB (rIsi K) (tCons (tVar 1) (tCons (tC (V.ty "bool")) tNil)))) (tRet (tAndV (tCB (rIsi K) (tCons (tVar 0) (tCons (tC (V.ty "bool")) tNil))) (tOp rEq (tVar 0) (tVar 1)))) tNext)
  (tSeq (tIfS (tB (tCB (rIsi K) (tCons (tVar 1) (tCons (tC (V.ty "int")) tNil)))) (tRet (tAndV (tCB (rIsi K) (tCons (tVar 0) (tCons (tC (V.ty "int")) tNil))) (tAndV (tNotV (tCB (rIsi K) (tCons (tVar 0) (tCons (tC (V.ty "bool")) tNil)))) (tOp rEq (tVar 0) (tVar 1))))) tNext)
  (tSeq (tIfS (tB (tCB (rIsi K) (tCons (tVar 1) (tCons (tC (V.ty "str")) tNil)))) (tRet (tAndV (tCB (rIsi K) (tCons (tVar 0) (tCons (tC (V.ty "str")) tNil))) (tOp rEq (tVar 0) (tVar 1)))) tNext)
  (tRet (tAndV (tOp rIsNo (tVar 1) (tC V.non)) (tOp rIsNo (tVar 0) (tC V.non))))))))
-- slots of _law_like: 0 _law_found, 1 _law_due, 2 _law_at
theorem ln__law_like {n : Nat} : ∀ ds r, P_like (n + 1) ds r → ds.length = 2 := fun ds r h => by obtain ⟨p, rfl, _⟩ := h; rfl
theorem atI_rng {xs : List PyData} {i : Nat} (h : i < xs.length) : ∃ x, xs[i]? = some x ∧ atI xs ((0 : Int) + (i : Int)) = some x := by
  refine ⟨xs[i], List.getElem?_eq_getElem h, ?_⟩
  rw [Int.zero_add]
  exact atI_nat (List.getElem?_eq_getElem h)
theorem mem_rng {lo : Int} {n : Nat} {x : PyData} (h : x ∈ rngD lo n) : ∃ i, i < n ∧ x = .int (lo + (i : Int)) := by
  unfold rngD at h
  obtain ⟨i, hi, rfl⟩ := List.mem_map.mp h
  exact ⟨i, List.mem_range.mp hi, rfl⟩
theorem un_at {G : Gam} {j : Nat} (h : G[j]? = some .un) : ∀ i e, i ∈ [j] → G[i]? = some e → e = .un := fun i e hi g => by
  rw [List.mem_singleton.mp hi, h] at g
  exact (Option.some.inj g).symm
theorem all_true (n : Nat) (l : List PyData) : l.map (fun _ => PyData.bool true) = (l.map fun _ => true).map PyData.bool := by
  rw [List.map_map]; rfl
theorem all_true2 (l : List PyData) : (l.map fun _ => true).all id = true := by
  rw [List.all_map]; simp
theorem rd__law_like {n : Nat} {ds r} (h : P_like (n + 1) ds r) (b : Bag) : SG K (t__law_like K n) (frame 3 ds) b (.rt r b) := qt_of (by simp (disch := with_unfolding_all
  obtain ⟨x, rfl, hx, rfl⟩ := h
  unfold t__law_like
  have v0 : EvG K (tVar 0) (frame 3 [x, x]) b x b := ev_var rfl
  have v1 : EvG K (tVar 1) (frame 3 [x, x]) b x b := ev_var rfl
  cases x with
  | none =>
    refine sg_when (et_B (ev_isi2 v1 kit_NoneType_tuple kit_NoneType_list)) (fun h => by cases h) fun _ => ?_
    refine sg_when (et_B (ev_isi v1 kit_NoneType_bool)) (fun h => by cases h) fun _ => ?_
    refine sg_when (et_B (ev_isi v1 kit_NoneType_int)) (fun h => by cases h) fun _ => ?_
    refine sg_when (et_B (ev_isi v1 kit_NoneType_str)) (fun h => by cases h) fun _ => ?_
    exact sg_ret (ev_andT (ev_isNo v1) (ev_isNo v0))
  | bool i =>
    refine sg_when (et_B (ev_isi2 v1 kit_bool_tuple kit_bool_list)) (fun h => by cases h) fun _ => ?_
    refine sg_when (et_B (ev_isi v1 kit_bool_bool)) (fun _ => ?_) (fun h => by cases h)
    refine sg_seqR (sg_ret (ev_andT (ev_isi v0 kit_bool_bool) (ev_is (ev_eqB v0 v1) ?_)))
    simp
  | int i =>
    refine sg_when (et_B (ev_isi2 v1 kit_int_tuple kit_int_list)) (fun h => by cases h) fun _ => ?_
    refine sg_when (et_B (ev_isi v1 kit_int_bool)) (fun h => by cases h) fun _ => ?_
    refine sg_when (et_B (ev_isi v1 kit_int_int)) (fun _ => ?_) (fun h => by cases h)
    refine sg_seqR (sg_ret (ev_andT (ev_isi v0 kit_int_int) (ev_andT (ev_not (ev_isi v0 kit_int_bool)) (ev_is (ev_eqI v0 v1) ?_))))
    simp
  | str i =>
    refine sg_when (et_B (ev_isi2 v1 kit_str_tuple kit_str_list)) (fun h => by cases h) fun _ => ?_
    refine sg_when (et_B (ev_isi v1 kit_str_bool)) (fun h => by cases h) fun _ => ?_
    refine sg_when (et_B (ev_isi v1 kit_str_int)) (fun h => by cases h) fun _ => ?_
    refine sg_when (et_B (ev_isi v1 kit_str_str)) (fun _ => ?_) (fun h => by cases h)
    refine sg_seqR (sg_ret (ev_andT (ev_isi v0 kit_str_str) (ev_is (ev_eqS v0 v1) ?_)))
    simp
  | dict i => cases n <;> cases hx
  | tuple xs =>
    cases n with
    | zero => cases hx
    | succ n =>
      unfold okD at hx
      obtain ⟨hl, ha⟩ := Bool.and_eq_true_iff.mp hx
      have hl := of_decide_eq_true hl
      refine sg_when (et_B (ev_isi2 v1 kit_tuple_tuple kit_tuple_list)) (fun _ => ?_) (fun h => by cases h)
      refine sg_seqR ?_
      refine sg_when (et_test (ev_neB (ev_isi v0 kit_tuple_tuple) (ev_isi v1 kit_tuple_tuple))) (fun h => by cases h) fun _ => ?_
      refine sg_when (et_orF (et_not (et_B (ev_isi2 v0 kit_tuple_tuple kit_tuple_list))) (et_is (et_test (ev_neI (ev_lenT v0) (ev_lenT v1))) (b' := false) (by simp))) (fun h => by cases h) fun _ => ?_
      refine sg_ret (ev_is (ev_all (bs := (rngD 0 ((xs.length : Int).toNat)).map fun _ => true) (ev_is (ev_lcM (src_rng1 (ea_cons (ev_lenT v1) ea_nil) ⟨by omega, by omega⟩) (fun _ => .bool true) (un_at rfl) (by rw [rngD_len]; omega) fun y hy => ?_) (congrArg PyData.list (all_true 0 _)))) (by rw [all_true2]))
      obtain ⟨i, hi, rfl⟩ := mem_rng hy
      rw [Int.toNat_natCast] at hi
      obtain ⟨z, hz, hz2⟩ := atI_rng hi
      refine ⟨_, tgt_name, ev_like (ev_ixT (ev_var rfl) (ev_var rfl) hz2) (ev_ixT (ev_var rfl) (ev_var rfl) hz2) rfl (okAll_get ha hz)⟩
  | list xs =>
    cases n with
    | zero => cases hx
    | succ n =>
      unfold okD at hx
      obtain ⟨hl, ha⟩ := Bool.and_eq_true_iff.mp hx
      have hl := of_decide_eq_true hl
      refine sg_when (et_B (ev_isi2 v1 kit_list_tuple kit_list_list)) (fun _ => ?_) (fun h => by cases h)
      refine sg_seqR ?_
      refine sg_when (et_test (ev_neB (ev_isi v0 kit_list_tuple) (ev_isi v1 kit_list_tuple))) (fun h => by cases h) fun _ => ?_
      refine sg_when (et_orF (et_not (et_B (ev_isi2 v0 kit_list_tuple kit_list_list))) (et_is (et_test (ev_neI (ev_lenL v0) (ev_lenL v1))) (b' := false) (by simp))) (fun h => by cases h) fun _ => ?_
      refine sg_ret (ev_is (ev_all (bs := (rngD 0 ((xs.length : Int).toNat)).map fun _ => true) (ev_is (ev_lcM (src_rng1 (ea_cons (ev_lenL v1) ea_nil) ⟨by omega, by omega⟩) (fun _ => .bool true) (un_at rfl) (by rw [rngD_len]; omega) fun y hy => ?_) (congrArg PyData.list (all_true 0 _)))) (by rw [all_true2]))
      obtain ⟨i, hi, rfl⟩ := mem_rng hy
      rw [Int.toNat_natCast] at hi
      obtain ⟨z, hz, hz2⟩ := atI_rng hi
      refine ⟨_, tgt_name, ev_like (ev_ixL (ev_var rfl) (ev_var rfl) hz2) (ev_ixL (ev_var rfl) (ev_var rfl) hz2) rfl (okAll_get ha hz)⟩
  ) only [↓qt_eq])
/-! ### a law's loop -/
end
end U


end
section
namespace U
open PySem PyProof.Rows L2 Evl
local macro_rules | `(tactic| walk_at "ev1a") => do
  let a ← ("ev_ixDisp ev_fst ev_snd ev_add ev_sub ev_mul ev_fdiv ev_mod ev_pow ev_lt ev_le ev_gt ev_ge ev_eqI ev_neI ev_neg ev_subB ev_isNo ev_noNo ev_not et_test et_B et_not ev_abs ev_max ev_min ev_intB ev_gcd ev_frac ev_fadd ev_sign ev_cmpF".splitOn " ").mapM fun (n : String) => `(tacticSeq| with_reducible apply $(Lean.mkIdent n.toName):ident)
  let b := a.toArray
  `(tactic| first $[| $b:tacticSeq]*)
local macro_rules | `(tactic| walk_at "ev1b") => do
  let a ← ("ev_like ev_tup ev_lst ea_cons eo_some ev_order".splitOn " ").mapM fun (n : String) => `(tacticSeq| with_reducible apply $(Lean.mkIdent n.toName):ident)
  let b := a.toArray
  `(tactic| first $[| $b:tacticSeq]*)
local macro_rules | `(tactic| walk_at "ev1") => `(tactic| first
  | exact ev_int | exact ev_bl | exact ev_str | exact ev_non | exact ev_var rfl | exact ea_nil | exact eo_none
  | walk_at "ev1a"
  | with_reducible apply ev_pull rfl
  | walk_at "ev1b"
  | exact ev_part rfl | exact ev_far rfl | exact ev_farPart rfl
  | (with_reducible show List.length _ ≤ 16000000; (simp; done)) | (with_reducible show (0 : Int) < _; decide) | (with_reducible show (_ : Int) < 1000000000000; decide) | (with_reducible show CPow _ _; (unfold CPow; decide)) | (with_reducible show CNz _ _; (unfold CNz; decide))
  | with_reducible apply sg_ret | with_reducible apply sg_asg | with_reducible apply sg_next)
local macro_rules | `(tactic| walk_at "ln") => `(tactic| first | walk_at "ev1" | with_reducible apply sg_seq)
section

theorem kit_dict_bool : kitB "dict" "bool" = some false := by decide +kernel
theorem kit_dict_int : kitB "dict" "int" = some false := by decide +kernel
theorem kit_dict_list : kitB "dict" "list" = some false := by decide +kernel
theorem kit_dict_tuple : kitB "dict" "tuple" = some false := by decide +kernel
noncomputable def isTup : PyData → Bool
  | .tuple _ => true
  | _ => false
noncomputable def isLst : PyData → Bool
  | .list _ => true
  | _ => false
noncomputable def isBool : PyData → Bool
  | .bool _ => true
  | _ => false
noncomputable def isInt : PyData → Bool
  | .int _ => true
  | .bool _ => true
  | _ => false
noncomputable def isWhole : PyData → Bool
  | .int _ => true
  | _ => false
theorem kit_tup (x : PyData) : kitB (tyN x) "tuple" = some (isTup x) := by
  cases x
  all_goals first | exact kit_NoneType_tuple | exact kit_bool_tuple | exact kit_int_tuple | exact kit_str_tuple | exact kit_list_tuple | exact kit_tuple_tuple | exact kit_dict_tuple
theorem kit_lst (x : PyData) : kitB (tyN x) "list" = some (isLst x) := by
  cases x
  all_goals first | exact kit_NoneType_list | exact kit_bool_list | exact kit_int_list | exact kit_str_list | exact kit_list_list | exact kit_tuple_list | exact kit_dict_list
theorem kit_int (x : PyData) : kitB (tyN x) "int" = some (isInt x) := by
  cases x
  all_goals first | exact kit_NoneType_int | exact kit_bool_int | exact kit_int_int | exact kit_str_int | exact kit_list_int | exact kit_tuple_int | exact kit_dict_int
theorem kit_bool (x : PyData) : kitB (tyN x) "bool" = some (isBool x) := by
  cases x
  all_goals first | exact kit_NoneType_bool | exact kit_bool_bool | exact kit_int_bool | exact kit_str_bool | exact kit_list_bool | exact kit_tuple_bool | exact kit_dict_bool
noncomputable def P_isWhole : List PyData → PyData → Prop := fun ds r => ∃ x, ds = [x] ∧ r = .bool (isWhole x)
noncomputable def isPart2 : PyData → PyData → Bool
  | .int a, .int b => decide (0 < b) && decide (gI a b = 1)
  | _, _ => false
noncomputable def isPart : PyData → Bool
  | .tuple [p, q] => isPart2 p q
  | _ => false
noncomputable def P_isPart : List PyData → PyData → Prop := fun ds r => ∃ x, ds = [x] ∧ r = .bool (isPart x)
section
variable {K : Fg} {G : Gam} {s s1 s2 s' : Bag} {ta tb te : TE} {x y : PyData} {E : XK}
theorem ev_isWhole (h : EvG K ta G s x s1) : EvG K (tCall (spP K P_isWhole) [] E (tCons ta tNil)) G s (.bool (isWhole x)) s1 := ev_call (ea_cons h ea_nil) (fun _ => .nil) ⟨x, rfl, rfl⟩
theorem ev_isPart (h : EvG K ta G s x s1) : EvG K (tCall (spP K P_isPart) [] E (tCons ta tNil)) G s (.bool (isPart x)) s1 := ev_call (ea_cons h ea_nil) (fun _ => .nil) ⟨x, rfl, rfl⟩
end
section
variable {K : Fg}
noncomputable def t_is_whole (K : Fg) : TS := (tRet (tAndV (tCB (rIsi K) (tCons (tVar 0) (tCons (tC (V.ty "int")) tNil))) (tNotV (tCB (rIsi K) (tCons (tVar 0) (tCons (tC (V.ty "bool")) tNil))))))
-- slots of is_whole: 0 thing
theorem ln_is_whole : ∀ ds r, P_isWhole ds r → ds.length = 1 := fun ds r h => by obtain ⟨p, rfl, _⟩ := h; rfl
theorem rd_is_whole {ds r} (h : P_isWhole ds r) (b : Bag) : SG K (t_is_whole K) (frame 1 ds) b (.rt r b) := by
  obtain ⟨x, rfl, rfl⟩ := h
  unfold t_is_whole
  refine sg_ret (ev_is (ev_and (ev_isi (ev_var rfl) (kit_int x)) fun _ => ev_not (ev_isi (ev_var rfl) (kit_bool x))) ?_)
  cases x <;> rfl
noncomputable def t_shared (K : Fg) : TS := (tSeq (tPar 0 1 (tCons (tCB rAbs (tCons (tVar 0) tNil)) (tCons (tCB rAbs (tCons (tVar 1) tNil)) tNil)))
  (tSeq (tWhile (tTest (tOp (rI0 fun i j => V.bl (decide (j < i))) (tVar 1) (tC (V.int 0)))) (tPar 0 1 (tCons (tVar 1) (tCons (tOp (rI CNz fun i j => V.int (i.fmod j)) (tVar 0) (tVar 1)) tNil))))
  (tRet (tCB rMx (tCons (tVar 0) (tCons (tC (V.int 1)) tNil))))))
-- slots of shared: 0 one, 1 other
theorem ln_shared : ∀ ds r, P_gcd ds r → ds.length = 2 := fun ds r h => by obtain ⟨p, q, rfl, _⟩ := h; rfl
theorem rd_shared {ds r} (h : P_gcd ds r) (b : Bag) : SG K (t_shared K) (frame 2 ds) b (.rt r b) := qt_of (by simp (disch := with_unfolding_all
  obtain ⟨x, y, rfl, rfl⟩ := h
  unfold t_shared
  obtain ⟨n, h1, h2⟩ := eu_end y.natAbs x.natAbs
  apply sg_is
  apply sg_seq
  · apply sg_par
    (repeat' walk_at "ev1")
  apply sg_seq
  · refine sg_while (s' := b) (fun i => [.d (.int (eu x.natAbs y.natAbs i).1), .d (.int (eu x.natAbs y.natAbs i).2)]) (fun _ => b) (fun _ => b) n ?_ rfl (fun i hi => ?_) (fun i hi => .inl ?_) ?_
    · show Wk [.d (.int (absI x)), .d (.int (absI y))] _
      rw [absI_nat, absI_nat]
      exact .refl _
    · refine et_is (by (repeat' walk_at "ev1")) ?_
      have := h2 i hi
      simp; omega
    · have hy := h2 i hi
      refine sg_is (sg_par (ea_cons (ev_var rfl) (ea_cons (ev_mod (ev_var rfl) (ev_var rfl) ?_) ea_nil))) ?_
      · show ((eu x.natAbs y.natAbs i).2 : Int) ≠ 0
        omega
      · rw [fmod_nat]
        rfl
    · refine et_is (by (repeat' walk_at "ev1")) ?_
      rw [h1]
      rfl
  · rw [h1]
    (repeat' walk_at "ev1")
  · show Out.rt (.int (maxI _ 1)) b = _
    rw [gN_max]
  ) only [↓qt_eq])
noncomputable def t_is_part (K : Fg) : TS := (tSeq (tIfS (tOr (tNot (tB (tCB (rIsi K) (tCons (tVar 0) (tCons (tC (V.ty "tuple")) tNil))))) (tTest (tOp rNe (tCB (rLenQ K) (tCons (tVar 0) tNil)) (tC (V.int 2))))) (tRet (tC (V.bl false))) tNext)
  (tSeq (tIfS (tOr (tNot (tB (tCall (spP K P_isWhole) [] E0 (tCons (tOp (rIx K) (tVar 0) (tC (V.int 0))) tNil)))) (tNot (tB (tCall (spP K P_isWhole) [] E0 (tCons (tOp (rIx K) (tVar 0) (tC (V.int 1))) tNil))))) (tRet (tC (V.bl false))) tNext)
  (tRet (tAndV (tOp (rI0 fun i j => V.bl (decide (j < i))) (tOp (rIx K) (tVar 0) (tC (V.int 1))) (tC (V.int 0))) (tOp rEq (tCall (spP K P_gcd) [] E0 (tCons (tOp (rIx K) (tVar 0) (tC (V.int 0))) (tCons (tOp (rIx K) (tVar 0) (tC (V.int 1))) tNil))) (tC (V.int 1)))))))
-- slots of is_part: 0 thing
theorem ln_is_part : ∀ ds r, P_isPart ds r → ds.length = 1 := fun ds r h => by obtain ⟨p, rfl, _⟩ := h; rfl
theorem rd_is_part {ds r} (h : P_isPart ds r) (b : Bag) : SG K (t_is_part K) (frame 1 ds) b (.rt r b) := qt_of (by simp (disch := with_unfolding_all
  obtain ⟨x, rfl, rfl⟩ := h
  have v0 : EvG K (tVar 0) (frame 1 [x]) b x b := ev_var rfl
  have no : isTup x = false → SG K (t_is_part K) (frame 1 [x]) b (.rt (.bool (isPart x)) b) := fun hx => by
    unfold t_is_part
    refine sg_when (et_orT (et_is (et_not (et_B (ev_isi v0 (kit_tup x)))) (by rw [hx]; rfl))) (fun _ => ?_) (fun h => by cases h)
    refine sg_seqR (sg_is (sg_ret ev_bl) ?_)
    cases x <;> first | rfl | cases hx
  cases x with
  | tuple xs =>
    unfold t_is_part
    by_cases hl : xs.length = 2
    · obtain ⟨p, q, rfl⟩ : ∃ p q, xs = [p, q] := by
        match xs, hl with
        | [p, q], _ => exact ⟨p, q, rfl⟩
      refine sg_when (et_orF (et_not (et_B (ev_isi v0 kit_tuple_tuple))) (et_test (ev_neI (ev_lenT v0) ev_int))) (fun h => by cases h) fun _ => ?_
      have w0 : EvG K (tOp (rIx K) (tVar 0) (tC (.int 0))) (frame 1 [.tuple [p, q]]) b p b := ev_ixT v0 ev_int rfl
      have w1 : EvG K (tOp (rIx K) (tVar 0) (tC (.int 1))) (frame 1 [.tuple [p, q]]) b q b := ev_ixT v0 ev_int rfl
      refine sg_when (et_or (et_not (et_B (ev_isWhole w0))) fun _ => et_not (et_B (ev_isWhole w1))) (fun h => ?_) fun h => ?_
      · refine sg_seqR (sg_is (sg_ret ev_bl) ?_)
        cases p <;> cases q <;> first | rfl | cases h
      · cases p <;> first | cases h | skip
        cases q <;> first | cases h | skip
        exact sg_ret (ev_and (ev_gt w1 ev_int) fun _ => ev_eqI (ev_gcd w0 w1) ev_int)
    · refine sg_when (et_orF (et_not (et_B (ev_isi v0 kit_tuple_tuple))) (et_is (b' := true) (et_test (ev_neI (ev_lenT v0) ev_int)) ?_)) (fun _ => ?_) (fun h => by cases h)
      · have : ¬ ((xs.length : Int) = 2) := by omega
        simp [this]
      · refine sg_seqR (sg_is (sg_ret ev_bl) ?_)
        match xs, hl with
        | [], _ => rfl
        | [_], _ => rfl
        | [_, _], h => exact absurd rfl h
        | _ :: _ :: _ :: _, _ => rfl
  | _ => exact no rfl
  ) only [↓qt_eq])
theorem atI_some {xs : List PyData} {i : Int} (h0 : 0 ≤ i) (h1 : i < xs.length) : ∃ x, atI xs i = some x ∧ x ∈ xs := by
  obtain ⟨j, rfl⟩ : ∃ j : Nat, i = (j : Int) := ⟨i.toNat, by omega⟩
  have hj : j < xs.length := by omega
  exact ⟨xs[j], atI_nat (List.getElem?_eq_getElem hj), List.getElem_mem hj⟩
-- slots of _law_wild: 0 _law_bag_here, 1 _law_things
end

end
end U
end
section
/-! Own exception classes over any of four built-in bases, their __init__ walked as a def. -/
namespace U
open PySem PySem.W PyProof.Rows L2 Evl
structure OxC (K : Fg) (C : Addr) (B newId initId : String) (bmB : List Value) : Prop where
  fb : ExcBaseFacts B newId initId bmB
  sf : StoreFacts B bmB "object.__setattr__" "object"
  ov : excOver K C bmB = true
  mkC : excInitIn K C bmB newId = true
  hd : hasDictIn K C = true
  sa : findIn K (.ref C) "__setattr__" = some (some (.builtin "object.__setattr__"))
  exC : subIn K (.ref C) (.type "BaseException") = some true
  tyC : typeIn K (.ref C) = some (.type "type")
  kC : keepIn K (.ref C) = true
section
open Builtin Builtin.ObjectAttr
variable {prog : Program} {w : World} {A : Around} {R : Result → Shared → Prop} {hp : Heap} {g : Array GenState} {d : Drawn} {t : Nat} {os : OsState} {K : Fg} {C x : Addr} {B newId initId : String} {bmB : List Value} {name : Str} {tk : Tok} {v : Value} {fv : Array Value}
theorem taker_none (h : findIn K (.ref C) name = some none) : takerIn K C name = some none := by
  unfold takerIn
  rw [h]
  rfl
theorem has_dict (h : hasDictIn K C = true) : ∃ cd, clsIn K C = some cd ∧ cd.hasDict = true := by
  unfold hasDictIn at h
  cases e : clsIn K C with
  | none => rw [e] at h; cases h
  | some cd => rw [e] at h; exact ⟨cd, rfl, h⟩
/-- the first field of an exception that has no dict yet -/
theorem osa_first (T : OxC K C B newId initId bmB) (X : K.In hp) (hx : hp.get? x = some { cls := .ref C, data := .fields fv }) (ha : findIn K (.ref C) name = some none)
    (hq : ∀ h' tk' dx, (∀ b o, b ≠ x → hp.get? b = some o → h'.get? b = some o) → hp.objs.size ≤ dx → dx ≠ x →
      h'.get? x = some { cls := .ref C, dict := some dx, data := .fields fv } → h'.Ns1 dx (fun y => if y = name then some v else none) → R (.ok (.ret .none)) ⟨h', g, d, tk', os⟩) :
    codeAny (model prog w) A (.call (.builtin "object.__setattr__") ⟨[.ref x, .str name tk, v], []⟩) R ⟨hp, g, d, t, os⟩ := qt_of (by simp (disch := with_unfolding_all
  have I : InstAt hp x { cls := .ref C, data := .fields fv } C none := ⟨hx, rfl, rfl, trivial⟩
  have hxs : x ≠ hp.objs.size := Nat.ne_of_lt (Heap.lt_size hx)
  obtain ⟨cd, hcd, hh⟩ := has_dict T.hd
  have hcls : Looks (model prog w) hp (classData C) cd := looks_clsIn X hcd
  refine osa_openX (s := ⟨hp, g, d, t, os⟩) T.sf X I T.ov (taker_none ha) fun b => ?_
  obtain ⟨nm, bs, mro, ns, qn, hdv, sn, sb, ab, col, del⟩ := cd
  dsimp only at hh
  subst hh
  show wpAny _ _ (storeInOwnDict (.ref x) (.ref C) (.str name tk) name v b) _ _ _
  unfold storeInOwnDict ownDictForStores
  cases b <;>
  repeat (first | with_reducible refine HandSPX.store_in_new ?_ ?_ | with_reducible refine wpAny_loadPart_at hx ?_ | with_reducible refine hcls.at ?_ | wp_step)
  case' false.h.h.h.hq.refine_1 => skip
  all_goals first
    | exact ⟨_, #[], _, (Heap.get?_update_ne _ _ _ _ hxs.symm).trans (Heap.get?_push_at rfl rfl), rfl, (fun e he => absurd he (by simp)), (fun _ => rfl)⟩
    | (intro h2 tk2 hn2 hs2
       have hx1 : (hp.push { cls := .type "dict", data := .dict #[] }).get? x = some ⟨.ref C, none, .fields fv, #[]⟩ := Heap.get?_push_of_some _ hx
       refine hq h2 tk2 hp.objs.size (fun b o hb ho => ?_) (Nat.le_refl _) hxs.symm ?_ hn2
       · have e1 := hs2.2 b (Nat.ne_of_lt (Heap.lt_size ho))
         exact e1.trans ((Heap.get?_update_ne _ _ _ _ hb).trans (Heap.get?_push_of_some _ ho))
       · have e1 := hs2.2 x hxs
         exact e1.trans (Heap.get?_update_self _ hx1 rfl))
  ) only [↓qt_eq])
/-- a further field -/
theorem osa_more {dx : Addr} {m0 : Str → Option Value} {nl : List Str} (T : OxC K C B newId initId bmB) (X : K.In hp) (hx : hp.get? x = some { cls := .ref C, dict := some dx, data := .fields fv }) (ha : findIn K (.ref C) name = some none)
    (hns : hp.Ns1 dx m0) (hw : Within m0 nl) (hz : nl.length ≤ 1000)
    (hq : ∀ h' tk', (∀ b o, b ≠ dx → hp.get? b = some o → h'.get? b = some o) → h'.Ns1 dx (fun y => if y = name then some v else m0 y) →
      R (.ok (.ret .none)) ⟨h', g, d, tk', os⟩) :
    codeAny (model prog w) A (.call (.builtin "object.__setattr__") ⟨[.ref x, .str name tk, v], []⟩) R ⟨hp, g, d, t, os⟩ := qt_of (by simp (disch := with_unfolding_all
  obtain ⟨oD, esD, epD, hoD, hdD, _⟩ := hns.count hw
  have I : InstAt hp x { cls := .ref C, dict := some dx, data := .fields fv } C (some oD) := ⟨hx, rfl, rfl, hoD⟩
  obtain ⟨cd, hcd, hh⟩ := has_dict T.hd
  have hcls : Looks (model prog w) hp (classData C) cd := looks_clsIn X hcd
  refine osa_openX (s := ⟨hp, g, d, t, os⟩) T.sf X I T.ov (taker_none ha) fun b => ?_
  obtain ⟨nm, bs, mro, ns, qn, hdv, sn, sb, ab, col, del⟩ := cd
  dsimp only at hh
  subst hh
  show wpAny _ _ (storeInOwnDict (.ref x) (.ref C) (.str name tk) name v b) _ _ _
  unfold storeInOwnDict ownDictForStores
  cases b <;>
  repeat (first | with_reducible refine OEX.store_in_old hns hw hz ?_ | with_reducible refine wpAny_loadPart_at hx ?_ | with_reducible refine hcls.at ?_ | wp_step)
  all_goals
    intro h2 tk2 hn2 hs2
    exact hq h2 tk2 (fun b o hb ho => (hs2.2 b hb).trans ho) hn2
  ) only [↓qt_eq])
end
section
variable {X : Cx} {pins : List (Addr × Obj)} {σ : St} {H : Hp} {s : Shared} {a C dx : Addr} {f : Str} {y : V} {u : Value} {fs : List (Str × V)} {Q : Unit → Shared → Prop} {E : Value → Shared → Prop} {A : Around} {B newId initId : String} {bmB : List Value}
theorem ox_new (T : OxC X.K C B newId initId bmB) (I : Inv X pins σ H s) (e : H a = some (exo a C none)) (hno : findIn X.K (.ref C) f = some none) (ry : RelV y u)
    (h : ∀ dx s', H dx = none → dx ≠ a → Inv X pins σ (upd (upd H dx (exd dx [(f, y)])) a (exo a C (some dx))) s' → Q () s') :
    wpAny (model X.prog X.w) A (setAttr (.ref a) f u) Q E s := qt_of (by simp (disch := with_unfolding_all
  obtain ⟨t1, ho⟩ := exo_at I.hok e
  obtain ⟨hp, g, d, t, os⟩ := s
  refine set_plain I.kIn (od := none) ⟨ho, rfl, rfl, trivial⟩ T.sa ?_
  refine osa_first T I.kIn ho hno fun h2 tk2 dx k dn dne hx hn => ?_
  have hnd : H dx = none := I.hok.fresh dn
  have nd : ∀ {b : Addr} {o : Obj}, hp.get? b = some o → b ≠ dx := fun {b o} q =>
    Nat.ne_of_lt (Nat.lt_of_lt_of_le (Heap.lt_size q) dn)
  have na : ∀ {b : Addr}, H b = none → b ≠ a := fun {b} n z => by
    subst z
    rw [e] at n
    cases n
  have un : Un X.fs [] H (upd (upd H dx (exd dx [(f, y)])) a (exo a C (some dx))) hp h2 := by
    refine ⟨fun b o q n _ _ => k b o (na n) q, fun b o q n _ _ => ⟨o.slots, k b o (na n) q⟩, fun b o q n _ => ?_, fun b o q _ => ?_, fun b xs q => ?_, fun b o v q => ?_, fun b ps q => ⟨#[], ?_⟩⟩
    · rw [upd_ne (na n), upd_ne (nd q)]
      exact n
    · by_cases hb : b = a
      · subst hb
        exact ⟨_, hx⟩
      · exact ⟨o, k b o hb q⟩
    · rw [upd_ne (at_ne e q exo_tup), upd_ne (ne_of_none q hnd)]
      exact q
    · rw [upd_ne (at_ne e q exo_frz), upd_ne (ne_of_none q hnd)]
      exact q
    · rw [upd_ne (at_ne e q exo_tbl), upd_ne (ne_of_none q hnd), q]
      simp
  refine h dx _ hnd dne (I.un (t' := tk2) un fun b o q => ?_)
  by_cases hb : b = a
  · subst hb
    rw [upd_same] at q
    cases q
    exact exo_ok hx
  rw [upd_ne hb] at q
  by_cases hd : b = dx
  · subst hd
    rw [upd_same] at q
    cases q
    exact exd_ok hn (relO_put (fs := []) ry fun _ => True.intro)
  rw [upd_ne hd] at q
  refine (I.hok b o q).stay (fun c v hc z => k c v ?_ z) (fun c hc => ?_) (fun c xs hc => ?_)
  · rcases hc with rfl | hc
    · exact hb
    · exact at_ne e hc exo_own
  · rw [upd_ne (at_ne e hc exo_own), upd_ne (ne_of_none hc hnd)]
    exact hc
  · rw [upd_ne (at_ne e hc exo_tup), upd_ne (ne_of_none hc hnd)]
    exact hc
  ) only [↓qt_eq])
theorem ox_old (T : OxC X.K C B newId initId bmB) (I : Inv X pins σ H s) (e : H a = some (exo a C (some dx))) (ed : H dx = some (exd dx fs)) (hl : fs.length ≤ 900) (hno : findIn X.K (.ref C) f = some none) (ry : RelV y u)
    (h : ∀ s', Inv X pins σ (upd H dx (exd dx ((f, y) :: fs))) s' → Q () s') :
    wpAny (model X.prog X.w) A (setAttr (.ref a) f u) Q E s := qt_of (by simp (disch := with_unfolding_all
  obtain ⟨t1, ho⟩ := exo_at I.hok e
  obtain ⟨mA, hns, rel⟩ := exd_at I.hok ed
  have hw := within_of rel
  obtain ⟨hp, g, d, t, os⟩ := s
  obtain ⟨oD, _, _, hoD, _, _⟩ := hns.count hw
  refine set_plain I.kIn (od := some oD) ⟨ho, rfl, rfl, hoD⟩ T.sa ?_
  refine osa_more T I.kIn ho hno hns hw (by rw [List.length_map]; omega) fun h2 tk2 k hn => ?_
  have hd : ∃ o, h2.get? dx = some o := by
    obtain ⟨o, _, _, e2, _⟩ := hn
    exact ⟨o, e2⟩
  exact h _ (I.write (t' := tk2) (x := dx) (e := dx) (by rw [ed]; exact True.intro) (.inl rfl) k hd (exd_ok hn (relO_put ry rel)))
  ) only [↓qt_eq])
/-- what is promised by an own exception's class -/
structure OxK (K : Fg) (C : Addr) : Prop where
  ex : ∃ B newId initId bmB, OxC K C B newId initId bmB
/-- self.f = e, upon an exception that is being made -/
noncomputable def tOx (K : Fg) (f : Str) (to te : TE) : TS := fun D σ H => te σ H fun y H1 => to σ H1 fun x H2 => ∃ a C : Addr, x = .ref a ∧ OxK K C ∧ findIn K (.ref C) f = some none ∧
  ((H2 a = some (exo a C none) ∧ ∀ dx, H2 dx = none → dx ≠ a → D.nx σ (upd (upd H2 dx (exd dx [(f, y)])) a (exo a C (some dx)))) ∨
    ∃ (dx : Addr) (fs : List (Str × V)), H2 a = some (exo a C (some dx)) ∧ H2 dx = some (exd dx fs) ∧ fs.length ≤ 900 ∧ D.nx σ (upd H2 dx (exd dx ((f, y) :: fs))))
/-- C(e, ..), C's own __init__ keeping sp -/
noncomputable def tMkX (C : Addr) (sp : Sp) (dvs : List V) (ta : TA) : St → Hp → XK → Prop := fun σ H Q => ta σ H fun vs H1 => vs.length ≤ 1000 ∧ ∀ a, H1 a = none →
  sp (.ref a :: (vs ++ dvs)) (upd H1 a (exo a C none)) (fun v H2 => v = .non ∧ ∃ (d : Addr) (fs : List (Str × V)), H2 a = some (exo a C (some d)) ∧ H2 d = some (exd d fs) ∧ H1 d = none ∧
    Q (.ref C) (some d) (upd (del H2 a) d (.xd fs))) (fun _ _ _ => False)
end
section
variable {X : Cx} {o e : Expr} {es : List Expr} {to te : TE} {ta : TA} {f : Str} {p p' p1 p2 pos : Pos}
theorem ps_ox (ho : PE X o to) (he : PE X e te) (hs : swapsWith e (some (.Attribute o f p')) pos.line X.env = pure false := by rfl) :
    PS X (.Assign [.Attribute o f p'] e pos) (tOx X.K f to te) := by
  refine ⟨fun pins s σ H D I h => ?_⟩
  refine plainObj_wpAny_Assign_Attribute (thn (he.run pins s σ H _ I h) fun v s1 hh => ?_) hs
  obtain ⟨y, H1, I1, r1, q1⟩ := hh
  refine thn (ho.run pins s1 σ H1 _ I1 q1) fun u s2 hh => ?_
  obtain ⟨x, H2, I2, r2, a, C, ex, T, hno, q⟩ := hh
  subst ex
  obtain rfl : u = Value.ref a := r2
  obtain ⟨B, n1, n2, bm, T⟩ := T.ex
  rcases q with ⟨ea, q⟩ | ⟨dx, fs, ea, ed, hl, q⟩
  · exact ox_new T I2 ea hno r1 fun dx s' n ne J => ⟨σ, _, J, q dx n ne⟩
  · exact ox_old T I2 ea ed hl hno r1 fun s' J => ⟨σ, _, J, q⟩
/-- the call of the class, once the arguments are there -/
theorem made_ox {CX : CXT} {C fI : Addr} {k : Nat} {fd : FuncData} {ps : List Str} {sp : Sp} {ds : List Value} {dvs vs : List V} {us : List Value} {pins : List (Addr × Obj)} {σ : St} {H : Hp} {s : Shared} {Q : XK} (T : OxK X.K C)
    (iC : findIn X.K (.ref C) "__init__" = some (some (.ref fI))) (tI : typeIn X.K (.ref fI) = some (.type "function")) (F1 : FnOk X.prog X.w X.K X.mg X.base CX k fI fd ps sp) (hr : Room (k + 1) X.A) (hb : Binds X.K fd ps ds) (hd : Vals dvs ds)
    (hx : Passes CX X (fun _ _ _ => False)) (I : Inv X pins σ H s) (r1 : Vals vs us) (hz : vs.length ≤ 1000)
    (h : ∀ a, H a = none → sp (.ref a :: (vs ++ dvs)) (upd H a (exo a C none)) (fun v H2 => v = .non ∧ ∃ (d : Addr) (fs : List (Str × V)), H2 a = some (exo a C (some d)) ∧ H2 d = some (exd d fs) ∧ H d = none ∧
      Q (.ref C) (some d) (upd (del H2 a) d (.xd fs))) (fun _ _ _ => False)) :
    wpAny (model X.prog X.w) X.A (call (.ref C) us) (MkP X pins σ Q) X.xe s := qt_of (by simp (disch := with_unfolding_all
  obtain ⟨B, n1, n2, bm, T⟩ := T.ex
  obtain ⟨hp, g, dr, tk, os⟩ := s
  obtain ⟨nm, N', qn, bs, bm', hdct, sn, sub, ab, col, dd, k0, k1, k2, k3, k5, hC, hT⟩ := excInit_of I.kIn T.mkC
  have hsz : hp.objs.size ≤ hp.objs.size + 1 := Nat.le_succ _
  have hn : H (hp.objs.size + 1) = none := I.hok.fresh hsz
  have hq := h (hp.objs.size + 1) hn
  have kk : ∀ b o, hp.get? b = some o → ((hp.push (kdv_tup us)).push (HandSPX.excO C hp.objs.size)).get? b = some o := fun b o e =>
    Heap.get?_push_of_some _ (Heap.get?_push_of_some _ e)
  have hget : ((hp.push (kdv_tup us)).push (HandSPX.excO C hp.objs.size)).get? (hp.objs.size + 1) = some (HandSPX.excO C hp.objs.size) := by heap_get
  have I2 := I.laid (t' := tk) (a := hp.objs.size + 1) (o := exo (hp.objs.size + 1) C none) (h' := (hp.push (kdv_tup us)).push (HandSPX.excO C hp.objs.size)) kk hsz (exo_ok hget)
  have r2 : Vals (V.ref (hp.objs.size + 1) :: (vs ++ dvs)) (Value.ref (hp.objs.size + 1) :: (us ++ ds)) := .cons rfl (r1.append hd)
  have hl : (Value.ref (hp.objs.size + 1) :: us ++ ds).length = ps.length := by
    rw [← F1.len _ _ _ _ hq]
    exact r2.length.symm
  have hus : us.length ≤ sizeLine := by
    rw [← Paired.length r1, sizeLine_eq]
    omega
  refine wpAny_call (HandSPX.call_own T.fb hT hC (looks_findIn I.kIn iC) (fun self => bind_fn I.kIn self tI) hus ?_)
  refine codeAny_mono (F1.run _ X.stack _ _ ⟨Value.ref (hp.objs.size + 1) :: us, []⟩ (Value.ref (hp.objs.size + 1) :: (us ++ ds)) _ _ (fun _ _ _ => False) (hr.make C us []) (I2.env0.make C us []) (hb _ _ I2.kIn hl) r2 hq) fun r s' hq' => ?_
  cases r with
  | error er => exact hx pins σ _ _ er s' I2 hq'
  | ok fl =>
    cases fl with
    | ret u =>
      obtain ⟨v, H2, os2, bare2, un2, hok2, rv, ev, d, fs, ea, ed, hd1, q2⟩ := hq'
      subst ev
      obtain ⟨h2, g2, d2, t2, os'⟩ := s'
      exact ⟨rv, mk_end (raises_own T.exC T.tyC) I hsz kk un2 hok2 os2 bare2 ea ed hd1 q2⟩
    | next => exact False.elim hq'
    | brk => exact False.elim hq'
    | cont => exact False.elim hq'
  ) only [↓qt_eq])
theorem pmk_ox0 {CX : CXT} {x : Str} {C fI : Addr} {k : Nat} {fd : FuncData} {ps : List Str} {sp : Sp} {ds : List Value} {dvs : List V} (T : OxK X.K C) (kC : keepIn X.K (.ref C) = true)
    (iC : findIn X.K (.ref C) "__init__" = some (some (.ref fI))) (tI : typeIn X.K (.ref fI) = some (.type "function")) (F1 : FnOk X.prog X.w X.K X.mg X.base CX k fI fd ps sp) (hr : Room (k + 1) X.A) (hb : Binds X.K fd ps ds) (hd : Vals dvs ds)
    (hx : Passes CX X (fun _ _ _ => False)) (hg : Gl X x) (hm : X.mg x = some (.ref C)) (hdb : (x == ("__debug__" : Str)) = false := by decide) :
    PMk X (.Call (.Name x p) [] [] pos) (tMkX C sp dvs tNil) := by
  intro pins s σ H Q I h
  refine wpAny_Call_Name_kw (ld_glob I hg hm ?_ hdb)
  exact callWith_K0 I.kIn kC (made_ox (us := []) (vs := []) T iC tI F1 hr hb hd hx I .nil (by show 0 ≤ 1000; decide) h.2)
end
end U

end
section
/-! Raising, over data: promises of defs that may raise, judgements of what raises, try .. except .. as. -/
namespace U
open PySem PyProof.Rows L2 Evl
/-- an exception: its class's name, its fields -/
structure Xw where
  cls : Str
  fs : List (Str × V)
noncomputable abbrev Cs := Str → Addr
/-- a def's promise that may raise -/
noncomputable def spX (K : Fg) (cs : Cs) (P : List PyData → Except Xw PyData → Prop) : Sp := fun vs H Q E => ∃ (W : Addr → Prop) (ds : List PyData) (r : Except Xw PyData), (∀ a, W a → ∃ o, H a = some o) ∧ DpAll K (less H W) vs ds ∧ P ds r ∧
  match r with
  | .ok x => ∀ v H', Ex H H' → Dp K (less H' W) v x → Q v H'
  | .error e => ∀ d H', Ex H H' → H d = none → H' d = some (.xd e.fs) → E (.ref (cs e.cls)) (some d) H'
noncomputable def SX (K : Fg) (cs : Cs) (W : WX) (ts : TS) (G : Gam) (s : Bag) (e : Xw) (G' : Gam) (s' : Bag) : Prop :=
  ∀ Wd B ad H0 H σ (D : Ends), Sta K Wd B ad H0 H σ G s → (∀ d ad' H' σ', Sta K Wd B ad' H0 H' σ' G' s' → Ex (less H (Zs Wd B ad G)) (less H' (Zs Wd B ad' G')) → H0 d = none → H' d = some (.xd e.fs) → W (.ref (cs e.cls)) (some d) σ' H') → ts D σ H
section
variable {K : Fg} {cs : Cs} {W : WX} {G G' G1 G2 : Gam} {s s1 s2 s3 s' : Bag} {ta tb tc te : TE} {t u : TT} {x y z : PyData} {tu tw tz : TS} {o : Out} {e : Xw}
theorem ev_callX {P : List PyData → Except Xw PyData → Prop} {ta : TA} {ds : List PyData} {dvs : List V} {des : List PyData} {E : St → XK} (h : EvA K ta G s ds s') (hd : ∀ H, DpAll K H dvs des) (hp : P (ds ++ des) (.ok x)) : EvG K (tCallSD (spX K cs P) dvs E ta) G s x s' := fun W B ad H0 H σ S Q q =>
  h W B ad H0 H σ S _ fun vs H1 S1 e1 d1 => ⟨Zs W B ad G, ds ++ des, .ok x, S1.there, dpa_app d1 (hd _), hp, fun v H' e d => q v H' (S1.ext e) (e1.trans (.of e)) d⟩
theorem sx_seq1 (h : SX K cs W tu G s e G' s') : SX K cs W (tSeq tu tz) G s e G' s' := fun Wd B ad H0 H σ D S k => h Wd B ad H0 H σ _ S k
theorem sx_ifT (h : EvT K t G s true s1) (h2 : SX K cs W tu G s1 e G' s') : SX K cs W (tIfS t tu tw) G s e G' s' := fun Wd B ad H0 H σ D S k =>
  h Wd B ad H0 H σ S _ fun H1 S1 e1 => iteT (h2 Wd B ad H0 H1 σ D S1 fun d ad' H' σ' S' e' => k d ad' H' σ' S' (e1.l.trans e'))
theorem sx_whenT (h : EvT K t G s true s1) (h2 : SX K cs W tu G s1 e G' s') : SX K cs W (tSeq (tIfS t tu tNext) tz) G s e G' s' := sx_seq1 (sx_ifT h h2)
/-! ### raise C(..) -/
/-- what an own exception's __init__ promises: its fields by its arguments -/
noncomputable def spIn (K : Fg) (nm : List Str) (g : List V → Option (List (Str × V))) : Sp := fun vs H Q _ => ∃ (a C : Addr) (ws : List V) (fs : List (Str × V)), vs = .ref a :: ws ∧ H a = some (exo a C none) ∧ OxK K C ∧ (∀ n ∈ nm, PySem.W.findIn K (.ref C) n = some none) ∧ g ws = some fs ∧
  ∀ d H', H d = none → H' a = some (exo a C (some d)) → H' d = some (exd d fs) → (∀ b, b ≠ a → b ≠ d → H' b = H b) → Q .non H'
noncomputable def tRaiseX (C : Addr) (sp : Sp) (dvs : List V) (ta : TA) (W : WX) : TS := fun _ σ H => tMkX C sp dvs ta σ H fun cls d H' => W cls d σ H'
theorem mk_read {C : Addr} {nm : List Str} {g : List V → Option (List (Str × V))} {dvs : List V} {ta : TA} {σ : St} {H : Hp} {Q : XK} {fs : List (Str × V)} (ox : OxK K C) (hn : ∀ n ∈ nm, PySem.W.findIn K (.ref C) n = some none)
    (h : ta σ H fun vs H1 => vs.length ≤ 1000 ∧ g (vs ++ dvs) = some fs ∧ ∀ d, H1 d = none → Q (.ref C) (some d) (upd H1 d (.xd fs))) (mono : ∀ (Q1 Q2 : List V → Hp → Prop), (∀ vs H1, Q1 vs H1 → Q2 vs H1) → ta σ H Q1 → ta σ H Q2) : tMkX C (spIn K nm g) dvs ta σ H Q := by
  refine mono _ _ (fun vs H1 hq => ?_) h
  obtain ⟨hl, hg, q⟩ := hq
  refine ⟨hl, fun a ha => ⟨a, C, vs ++ dvs, fs, rfl, upd_same, ox, hn, hg, fun d H2 hd h1 h2 h3 => ?_⟩⟩
  have hda : d ≠ a := fun z => by rw [z, upd_same] at hd; cases hd
  rw [upd_ne hda] at hd
  refine ⟨rfl, d, fs, h1, h2, hd, ?_⟩
  have e : upd (del H2 a) d (.xd fs) = upd H1 d (.xd fs) := by
    funext b
    by_cases hb : b = d
    · rw [hb, upd_same, upd_same]
    · rw [upd_ne hb, upd_ne hb]
      by_cases ha2 : b = a
      · rw [ha2, del_same, ha]
      · rw [del_ne ha2, h3 b ha2 hb, upd_ne ha2]
  rw [e]
  exact q d hd
/-- raise C() -/
theorem sx_raise0 {c : Str} {nm : List Str} {g : List V → Option (List (Str × V))} {fs : List (Str × V)} (ox : OxK K (cs c)) (hn : ∀ n ∈ nm, PySem.W.findIn K (.ref (cs c)) n = some none) (hg : g [] = some fs) : SX K cs W (tRaiseX (cs c) (spIn K nm g) [] tNil W) G s ⟨c, fs⟩ G s := fun Wd B ad H0 H σ D S k => by
  refine mk_read ox hn ⟨by show 0 ≤ 1000; decide, hg, fun d hd => ?_⟩ (fun Q1 Q2 m h => m _ _ h)
  have e : Ex H (upd H d (.xd fs)) := Ex.new hd
  exact k d ad _ σ (S.ext e) (less_mono e) (S.fresh hd).1 upd_same
end
section
variable {Pg : Program} {w : World} {K : Fg} {mg : Str → Option Value} {base : Heap} {cs : Cs}
/-- what a def that may raise is read to do -/
noncomputable def RdX (K : Fg) (cs : Cs) (W : WX) (t : TS) (G : Gam) (b : Bag) : Except Xw PyData → Prop
  | .ok x => SG K t G b (.rt x b)
  | .error e => ∃ G', SX K cs W t G b e G' b
/-- a def's own wish -/
noncomputable abbrev WD (E : XK) : WX := fun cls d _ H => E cls d H
end
/-! ### try .. except C as why -/
section
variable {K : Fg} {cs : Cs} {G G' G1 : Gam} {s s1 s' : Bag} {x : PyData} {e : Xw}
end
end U

end
section
/-! Defs with defaults and keyword-only parameters; the refusals' own __init__. -/
namespace U
open PySem PyProof.Rows L2 Evl
section
variable {Pg : Program} {w : World} {K : Fg} {mg : Str → Option Value} {base : Heap} {cs : Cs}
theorem okPD {x qual : Str} {st : Stmt} {dvs : List V} {kws : List (Str × V)} {f : Addr} {fd : FuncData} {N ps : List Str} {k : Nat} {P : List PyData → PyData → Prop} (F : FunD K x qual (defArgs st) (defBody st) (defScope st) dvs kws f fd) (S : FnScope N ps (defScope st)) (hl : ∀ ds r, P ds r → ds.length = ps.length)
    (hb : ∀ ds r, P ds r → ∀ (cdv : Value) (A : Around) (outer : List Env) (sh : Shared) (H : Hp) (E : XK), Room k (A.deeper (envOfC qual (defScope st) sh.heap.objs.size f cdv)) →
      ∃ t, PSs (cxOf CX0 Pg w K mg base N qual (defScope st) f cdv A outer sh H E).nox (defBody st) t ∧ ∀ b, SG K t (frame N.length ds) b (.rt r b)) : FnOk Pg w K mg base CX0 (k + 1) f fd ps (spP K P) := qt_of (by simp (disch := with_unfolding_all
  refine F.ok S (fun vs H Q E h => ?_) (fun cdv A outer sh H vs Q E hr h => ?_)
  · obtain ⟨W, ds, r, _, hd, hp, _⟩ := h
    rw [dpa_len hd]
    exact hl ds r hp
  · obtain ⟨W, ds, r, hW, hd, hp, q⟩ := h
    obtain ⟨t, ht, g⟩ := hb ds r hp cdv A outer sh H E hr
    refine ⟨t, ht.nox, g ⟨[], 0, 0⟩ W none (fun _ => 0) H H _ _ (sta0 hW hd _) fun v H' e _ d => q v H' (fun a o h => e a o h (fun ⟨_, _, z, _⟩ => by cases z)) (dp_mono (less_sub fun a z => .inl z) d)⟩
  ) only [↓qt_eq])
theorem okXD {x qual : Str} {st : Stmt} {dvs : List V} {kws : List (Str × V)} {f : Addr} {fd : FuncData} {N ps : List Str} {k : Nat} {P : List PyData → Except Xw PyData → Prop} (F : FunD K x qual (defArgs st) (defBody st) (defScope st) dvs kws f fd) (S : FnScope N ps (defScope st)) (hl : ∀ ds r, P ds r → ds.length = ps.length)
    (hb : ∀ ds r, P ds r → ∀ (cdv : Value) (A : Around) (outer : List Env) (sh : Shared) (H : Hp) (E : XK), Room k (A.deeper (envOfC qual (defScope st) sh.heap.objs.size f cdv)) →
      ∃ t, PSs (cxOf (L2.CX Pg w) Pg w K mg base N qual (defScope st) f cdv A outer sh H E) (defBody st) t ∧ ∀ b, RdX K cs (WD E) t (frame N.length ds) b r) :
    FnOk Pg w K mg base (L2.CX Pg w) (k + 1) f fd ps (spX K cs P) := qt_of (by simp (disch := with_unfolding_all
  refine F.ok S (fun vs H Q E h => ?_) (fun cdv A outer sh H vs Q E hr h => ?_)
  · obtain ⟨W, ds, r, _, hd, hp, _⟩ := h
    rw [dpa_len hd]
    exact hl ds r hp
  · obtain ⟨W, ds, r, hW, hd, hp, q⟩ := h
    obtain ⟨t, ht, g⟩ := hb ds r hp cdv A outer sh H E hr
    refine ⟨t, ht, ?_⟩
    have nb : ∀ a, ¬ InB none a := fun a ⟨_, _, z, _⟩ => by cases z
    have S0 := sta0 (N := N) hW hd ⟨[], 0, 0⟩
    cases r with
    | ok x => exact g ⟨[], 0, 0⟩ W none (fun _ => 0) H H _ _ S0 fun v H' e _ d => q v H' (fun a o h => e a o h (nb a)) (dp_mono (less_sub fun a z => .inl z) d)
    | error e =>
      obtain ⟨G', g⟩ := g ⟨[], 0, 0⟩
      exact g W none (fun _ => 0) H H _ _ S0 fun d ad' H' σ' S' _ hn hx => q d H' (fun a o h => S'.base a o h (nb a)) hn hx
  ) only [↓qt_eq])
/-- all given though there are defaults -/
theorem binds_all {x qual : Str} {params : Arguments} {body : List Stmt} {scope : Scope} {dvs : List V} {kws : List (Str × V)} {f : Addr} {fd : FuncData} {ps : List Str} (F : FunD K x qual params body scope dvs kws f fd) (hd : dvs ≠ [])
    (h : ∀ (T : Addr) (kV doc pm : Value) (an : Option Addr) (cdv ct : Value) (us its : List Value), us.length = ps.length → its.length = dvs.length →
      ∃ k, bindArgs (PySem.W.fnOf x qual params body scope (.ref T) kV doc pm an cdv ct) ⟨us, []⟩ = seqItems? (.ref T) >>= k ∧ k (some its.toArray) = pure (ps.zip us)) : Binds K fd ps [] := qt_of (by simp (disch := with_unfolding_all
  obtain ⟨ds, r, b⟩ := F.binds1 (ps := ps) ps.length dvs.length hd (by omega) (fun T kV doc pm an cdv ct us its l1 l2 => by
    obtain ⟨k, e1, e2⟩ := h T kV doc pm an cdv ct us its l1 l2
    refine ⟨k, e1, ?_⟩
    rw [e2, List.drop_eq_nil_of_le (by omega), List.append_nil])
  rw [List.drop_eq_nil_of_le (Nat.le_refl _)] at r
  cases r
  exact b
  ) only [↓qt_eq])
/-- keyword-only parameters, all given by name; the others by place -/
theorem kbinds_all {x qual : Str} {params : Arguments} {body : List Stmt} {scope : Scope} {kws : List (Str × V)} {f : Addr} {fd : FuncData} {ps ks : List Str} {n : Nat} (F : FunD K x qual params body scope [] kws f fd)
    (h : ∀ (kV doc pm : Value) (an : Option Addr) (cdv ct : Value) (us ws : List Value), us.length = n → ws.length = ks.length → bindArgs (PySem.W.fnOf x qual params body scope .none kV doc pm an cdv ct) ⟨us, ks.zip ws⟩ = pure (ps.zip (us ++ ws))) :
    KBn K fd ps n ks (fun us ws => us ++ ws) (fun vs zs => vs ++ zs) := qt_of (by simp (disch := with_unfolding_all
  obtain ⟨oc, od, dV, kV, doc, pm, an, cdv, ct, osl, rfl, lk, hcd, hD, hK⟩ := F.ex
  rcases hD with ⟨_, rfl⟩ | ⟨e, _⟩
  · exact ⟨fun s us ws X l1 l2 => .of_eq (h kV doc pm an cdv ct us ws l1 l2), fun r1 r2 => r1.append r2⟩
  · exact absurd rfl e
  ) only [↓qt_eq])
end
section
variable {K : Fg} {cs : Cs} {W : WX} {G G' G1 G2 : Gam} {s s1 s2 s3 s' : Bag} {ta tb tc te : TE} {t u : TT} {x y z : PyData}
end
/-! ### Flat -/
noncomputable abbrev gFlat : List V → Option (List (Str × V)) := fun ws => match ws with
  | [] => some [("word", .str "Flat")]
  | _ => none
noncomputable def t_Flat (K : Fg) : TS := tOx K "word" (tVar 0) (tC (V.str "Flat"))
theorem rd_Flat {K : Fg} {a C : Addr} {H : Hp} {D : Ends} (ha : H a = some (exo a C none)) (ox : OxK K C) (hn : PySem.W.findIn K (.ref C) "word" = some none)
    (q : ∀ d H', H d = none → H' a = some (exo a C (some d)) → H' d = some (exd d [("word", .str "Flat")]) → (∀ b, b ≠ a → b ≠ d → H' b = H b) → D.nx [some (.ref a)] H') : t_Flat K D [some (.ref a)] H := by
  refine ⟨.ref a, rfl, a, C, rfl, ox, hn, .inl ⟨ha, fun d hd hda => ?_⟩⟩
  refine q d _ hd upd_same (by rw [upd_ne hda, upd_same]) fun b h1 h2 => by rw [upd_ne h1, upd_ne h2]
theorem okFlat {Pg : Program} {w : World} {K : Fg} {mg : Str → Option Value} {base : Heap} {st : Stmt} {qual : Str} {f : Addr} {fd : FuncData} {k : Nat} (F : Fun K "__init__" qual st f fd) (S : FnScope ["self"] ["self"] (defScope st))
    (hb : ∀ (cdv : Value) (A : Around) (outer : List Env) (sh : Shared) (H : Hp) (E : XK), PSs (cxOf CX0 Pg w K mg base ["self"] qual (defScope st) f cdv A outer sh H E).nox (defBody st) (t_Flat K)) : FnOk Pg w K mg base CX0 (k + 1) f fd ["self"] (spIn K ["word"] gFlat) := qt_of (by simp (disch := with_unfolding_all
  refine F.ok S (fun vs H Q E h => ?_) (fun cdv A outer sh H vs Q E hr h => ?_)
  · obtain ⟨a, C, ws, fs, rfl, _, _, _, hg, _⟩ := h
    cases ws with
    | nil => rfl
    | cons _ _ => cases hg
  · obtain ⟨a, C, ws, fs, rfl, ha, ox, hn, hg, q⟩ := h
    cases ws with
    | cons _ _ => cases hg
    | nil =>
      cases hg
      exact ⟨_, hb cdv A outer sh H E, rd_Flat ha ox (hn _ (List.mem_singleton.mpr rfl)) q⟩
  ) only [↓qt_eq])
noncomputable abbrev xFlat : Xw := ⟨"Flat", [("word", .str "Flat")]⟩
noncomputable abbrev W0 : WX := fun _ _ _ _ => False
end U

end
section
namespace U
open PySem PyProof.Rows L2 Evl
/-- what is told of an own exception class by its name -/
structure ClsF (K : Fg) (cs : Cs) (c : Str) (nm : List Str) : Prop where
  ox : OxK K (cs c)
  no : ∀ n ∈ nm, PySem.W.findIn K (.ref (cs c)) n = some none
section
variable {K : Fg}
theorem fund_mk {x qual : Str} {st : Stmt} {f T : Addr} {oc ot : Value} {od odt an : Option Addr} {osl osT : Array (Option Value)} {kV doc pm cdv ct : Value} {its : List Value} {n : Nat} {dvs : List V}
    (l : K.lookup f = some ⟨oc, od, .func (PySem.W.fnOf x qual (defArgs st) (defBody st) (defScope st) (.ref T) kV doc pm an cdv ct), osl⟩)
    (c : PySem.W.codeIn K cdv qual = true) (k : PySem.W.keepIn K (.ref f) = true) (t : K.lookup T = some ⟨ot, odt, .seq its.toArray n, osT⟩) (r : Vals dvs its) (hd : dvs ≠ []) :
    FunD K x qual (defArgs st) (defBody st) (defScope st) dvs [] f (PySem.W.fnOf x qual (defArgs st) (defBody st) (defScope st) (.ref T) kV doc pm an cdv ct) :=
  ⟨⟨oc, od, _, kV, doc, pm, an, cdv, ct, osl, rfl, l, c, .inr ⟨hd, T, _, its, n, rfl, t, rfl, r⟩, .inl rfl⟩, k⟩
theorem fundk_mk {x qual : Str} {st : Stmt} {f D : Addr} {oc : Value} {od an : Option Addr} {osl : Array (Option Value)} {doc pm cdv ct : Value} {kws : List (Str × V)}
    (l : K.lookup f = some ⟨oc, od, .func (PySem.W.fnOf x qual (defArgs st) (defBody st) (defScope st) .none (.ref D) doc pm an cdv ct), osl⟩)
    (c : PySem.W.codeIn K cdv qual = true) (k : PySem.W.keepIn K (.ref f) = true) (h : ∀ q ∈ kws, ∃ u, PySem.W.nsIn K D q.1 = some (some u) ∧ RelV q.2 u) :
    FunD K x qual (defArgs st) (defBody st) (defScope st) [] kws f (PySem.W.fnOf x qual (defArgs st) (defBody st) (defScope st) .none (.ref D) doc pm an cdv ct) :=
  ⟨⟨oc, od, _, _, doc, pm, an, cdv, ct, osl, rfl, l, c, .inl ⟨rfl, rfl⟩, .inr ⟨D, rfl, h⟩⟩, k⟩
/-- exmOne of own classes -/
theorem em_of {C : Addr} {cls : Value} {b : Bool} (h1 : PySem.W.subIn K (.ref C) (.type "BaseException") = some true) (hdct : PySem.W.hasDictIn K C = true) (ht : PySem.W.typeIn K (.ref C) = some (.type "type")) (h4 : PySem.W.subIn K cls (.ref C) = some b) : PySem.W.exmOne K cls (.ref C) = some b := PySem.W.exm_ref h1 hdct ht h4
end
end U

end
section
/-! Own exceptions whose __init__ calls the base class's own. -/
namespace U
open PySem PySem.W PyProof.Rows L2 Evl
/-- C.m(e, ..), C an own class, m a plain def of it -/
theorem pe_up {X : Cx} {CX : CXT} {k : Nat} {x m : Str} {C g : Addr} {mc : Value} {fd : FuncData} {ps : List Str} {sp : Sp} {E : XK} {ds : List Value} {dvs : List V} {e : Expr} {es : List Expr} {t : TA} {p pos apos : Pos} {pl : Sem Bool}
    (hg : Gl X x) (hm : X.mg x = some (.ref C)) (rd : readsIn X.K C mc = true) (ga : specialIn X.K (.ref C) "__getattribute__" = some (some (.builtin "type.__getattribute__"))) (fa : findCls X.K (.ref C) mc m = some (.val (.ref g)))
    (hk : keepIn X.K (.ref g) = true) (F : FnOk X.prog X.w X.K X.mg X.base CX k g fd ps sp) (hr : Room k X.A) (hb : Binds X.K fd ps ds) (hd : Vals dvs ds) (hx : Passes CX X E) (ha : PA X (e :: es) t) (hdb : (x == ("__debug__" : Str)) = false := by decide)
    (ht : eval (.Call (.Attribute (.Name x p) m apos) (e :: es) [] pos) X.env = (do
      let ov ← eval (.Name x p) X.env
      standAt apos.atName
      let (f, first) ← holding [ov] (getMethod ov m pl)
      callWith pos f first (backTo pos (starEach (e :: es) X.env)) (backToKw pos (keywordEach [] X.env))) := by rfl)
    (he : starEach (e :: es) X.env = (false, eval e X.env) :: starEach es X.env := by rfl) (hpl : (backTo pos (starEach es X.env)).any (·.1) = false := by rfl) :
    PE X (.Call (.Attribute (.Name x p) m apos) (e :: es) [] pos) (tCall sp dvs E t) := by
  refine ⟨fun pins s σ H Q I h => ?_⟩
  refine methodCall_KW (pl := pl) (ld_glob I hg hm ?_ hdb) ht
  refine method_cls I.kIn ga (cls_value I.kIn rd fa rfl ?_)
  show wpAny _ _ (callWith pos (.ref g) [] (backTo pos (starEach (e :: es) X.env)) []) _ _ _
  refine callWith_K (h₀ := X.base) I.ok.mod.kin hk (thn (ha.run pos pins _ σ H _ (I.tok _) h) fun us s1 hh => ?_) he hpl
  obtain ⟨vs, H1, I1, r, q⟩ := hh
  exact ⟨I1.kIn, run_fn F hr hb hd hx I1 r q⟩
/-- self.word = word -/
noncomputable abbrev gWd : List V → Option (List (Str × V)) := fun ws => match ws with
  | [v] => some [("word", v)]
  | _ => none
/-- a word that is always the same -/
noncomputable abbrev gCw (w : Str) : List V → Option (List (Str × V)) := fun ws => match ws with
  | [] => some [("word", .str w)]
  | _ => none
noncomputable def t_Wd (K : Fg) : TS := tOx K "word" (tVar 0) (tVar 1)
section
variable {Pg : Program} {w : World} {K : Fg} {mg : Str → Option Value} {base : Heap} {cs : Cs}
theorem okWd {st : Stmt} {qual : Str} {dvs : List V} {f : Addr} {fd : FuncData} {k : Nat} (F : FunD K "__init__" qual (defArgs st) (defBody st) (defScope st) dvs [] f fd) (S : FnScope ["self", "word"] ["self", "word"] (defScope st))
    (hb : ∀ (cdv : Value) (A : Around) (outer : List Env) (sh : Shared) (H : Hp) (E : XK), PSs (cxOf CX0 Pg w K mg base ["self", "word"] qual (defScope st) f cdv A outer sh H E) (defBody st) (t_Wd K)) : FnOk Pg w K mg base CX0 (k + 1) f fd ["self", "word"] (spIn K ["word"] gWd) := qt_of (by simp (disch := with_unfolding_all
  refine F.ok S (fun vs H Q E h => ?_) (fun cdv A outer sh H vs Q E hr h => ?_)
  · obtain ⟨a, C, ws, fs, rfl, _, _, _, hg, _⟩ := h
    match ws, hg with
    | [v], _ => rfl
  · obtain ⟨a, C, ws, fs, rfl, ha, ox, hn, hg, q⟩ := h
    match ws, hg with
    | [v], hg =>
      cases hg
      refine ⟨_, hb cdv A outer sh H E, ?_⟩
      refine ⟨v, rfl, .ref a, rfl, a, C, rfl, ox, hn _ (List.mem_singleton.mpr rfl), .inl ⟨ha, fun d hd hda => ?_⟩⟩
      exact q d _ hd upd_same (by rw [upd_ne hda, upd_same]) fun b h1 h2 => by rw [upd_ne h1, upd_ne h2]
  ) only [↓qt_eq])
noncomputable def t_Sub (K : Fg) (w : Str) : TS := tDrop (tCall (spIn K ["word"] gWd) [] E0 (tCons (tVar 0) (tCons (tC (V.str w)) tNil)))
theorem okSub (wd : Str) {st : Stmt} {qual : Str} {f : Addr} {fd : FuncData} {k : Nat} (F : Fun K "__init__" qual st f fd) (S : FnScope ["self"] ["self"] (defScope st))
    (hb : ∀ (cdv : Value) (A : Around) (outer : List Env) (sh : Shared) (H : Hp) (E : XK), Room k (A.deeper (envOfC qual (defScope st) sh.heap.objs.size f cdv)) → PSs (cxOf CX0 Pg w K mg base ["self"] qual (defScope st) f cdv A outer sh H E).nox (defBody st) (t_Sub K wd)) : FnOk Pg w K mg base CX0 (k + 1) f fd ["self"] (spIn K ["word"] (gCw wd)) := qt_of (by simp (disch := with_unfolding_all
  refine F.ok S (fun vs H Q E h => ?_) (fun cdv A outer sh H vs Q E hr h => ?_)
  · obtain ⟨a, C, ws, fs, rfl, _, _, _, hg, _⟩ := h
    match ws, hg with
    | [], _ => rfl
  · obtain ⟨a, C, ws, fs, rfl, ha, ox, hn, hg, q⟩ := h
    match ws, hg with
    | [], hg =>
      cases hg
      refine ⟨_, hb cdv A outer sh H E hr, ?_⟩
      exact ⟨.ref a, rfl, a, C, [.str wd], _, rfl, ha, ox, hn, rfl, fun d H' h1 h2 h3 h4 => q d H' h1 h2 h3 h4⟩
  ) only [↓qt_eq])
end
end U

end
section
namespace U
open PySem PyProof.Rows L2 Evl
/-- the values of a module's constants -/
noncomputable abbrev Gs := Str → V
/-- for .. in a list or a tuple -/
noncomputable def iSeq (K : Fg) (tl : TE) : TI := fun σ H R => tl σ H fun x H1 => ∃ a, x = .ref a ∧ (((∃ xs, SqL K H1 a xs) ∧ R (Itl K a) H1) ∨ ((∃ xs, SqT K H1 a xs) ∧ R (Itt K a) H1))
theorem pi_seq {X : Cx} {tg l : Expr} {tl : TE} (hl : PE X l tl) : PI X tg l (iSeq X.K tl) := qt_of (by simp (disch := with_unfolding_all
  refine ⟨fun pins s σ H R I h => ?_⟩
  refine thn (hl.run pins s σ H _ I h) fun v s1 hh => ?_
  obtain ⟨x, H1, I1, r1, a, e, q1⟩ := hh
  subst e
  cases r1
  have fp : ∀ b, b ∈ [s1.heap.objs.size] → FpOk X pins H1 b := fun b hb => by
    have e : b = s1.heap.objs.size := by simpa using hb
    subst e
    exact I1.fpOk (Nat.le_refl _) (I1.hok.fresh (Nat.le_refl _))
  rcases q1 with ⟨⟨xs, hq⟩, q⟩ | ⟨⟨xs, hq⟩, q⟩
  · obtain ⟨its, rv, p, hz⟩ := I1.list hq
    refine wpAny_pyIter_list p.isList ?_
    exact ⟨s1.heap.objs.size, [s1.heap.objs.size], _, _, H1, rfl, I1.kept (t' := s1.toks) fun b o e => Heap.get?_push_of_some _ e, turn_list a _, ⟨_, Heap.get?_push_size _ rfl, rfl, rfl⟩, fp, q⟩
  · obtain ⟨its, rv, p, hz⟩ := I1.tuple hq
    refine wpAny_pyIter_tuple (show s1.heap.IsTuple a its.toArray from p) ?_
    exact ⟨s1.heap.objs.size, [s1.heap.objs.size], _, _, H1, rfl, I1.kept (t' := s1.toks) fun b o e => Heap.get?_push_of_some _ e, turn_tuple a _, ⟨_, Heap.get?_push_size _ rfl, rfl, rfl⟩, fp, q⟩
  ) only [↓qt_eq])
section
variable {K : Fg} {cs : Cs} {W : WX} {G G' G1 : Gam} {s s1 s2 s' : Bag} {ta tb te : TE} {x y : PyData} {e : Xw}
end
end U

end
section
namespace U
open PySem PySem.W PyProof.Rows L2 Evl
section
variable {prog : Program} {w : World} {A : Around} {E : Value → Shared → Prop} {s : Shared}
end
end U

end
section
/-! The second data layer: what is wanted of a reading, and what suffices for it. Slots hold data, things of one's own, or the bag. -/
namespace U.N
open PySem L2 Evl
/-- a thing of one's own: what it holds, and how it stands in the heap -/
structure Own where
  flat : List PyData
  obj : Addr → List V → HO
/-- a list of one's own -/
noncomputable def ol (xs : List PyData) : Own := ⟨xs, fun _ vs => .lst vs⟩
inductive En where
  | un
  | d (x : PyData)
  | ow (c : Own)
  | bag
  /-- a caught exception: itself, its dict, its fields -/
  | xc (a d : Addr) (fs : List (Str × V))
  /-- a thing that stays as it is -/
  | fz (c : Own)
  /-- any value, known as it is -/
  | vl (v : V)
noncomputable abbrev Gam := List En
noncomputable def Zs (W : Addr → Prop) (B : Option (Addr × Addr)) (ad : Nat → Addr) (G : Gam) : Addr → Prop := fun a => W a ∨ (∃ i c, G[i]? = some (.ow c) ∧ a = ad i) ∨ InB B a
noncomputable def Slot (K : Fg) (B : Option (Addr × Addr)) (ad : Nat → Addr) (H : Hp) (Z : Addr → Prop) (i : Nat) (o : Option V) : En → Prop
  | .un => True
  | .d x => ∃ v, o = some v ∧ Dp K (less H Z) v x
  | .ow c => o = some (.ref (ad i)) ∧ ∃ vs, H (ad i) = some (c.obj (ad i) vs) ∧ DpAll K (less H Z) vs c.flat
  | .bag => ∃ b c, B = some (b, c) ∧ o = some (.ref b)
  | .xc a d fs => o = some (.ref a) ∧ less H Z d = some (.xd fs)
  | .fz c => ∃ a vs, o = some (.ref a) ∧ less H Z a = some (c.obj a vs) ∧ DpAll K (less H Z) vs c.flat
  | .vl v => o = some v
noncomputable def BagOk (H : Hp) (B : Option (Addr × Addr)) : Prop := ∃ s : Bag, s.ok ∧ BagAt H B s
theorem BagOk.xb {H H2 : Hp} {B : Option (Addr × Addr)} (h : BagOk H B) (e : ∀ a, InB B a → H2 a = H a) : BagOk H2 B := qt_of (by simp (disch := with_unfolding_all
  obtain ⟨s, ok, h⟩ := h
  refine ⟨s, ok, ?_⟩
  rcases B with _ | ⟨b, c⟩
  · trivial
  · have h : H b = _ ∧ _ := h
    exact ⟨(e b ⟨b, c, rfl, .inl rfl⟩).trans h.1, (e c ⟨b, c, rfl, .inr rfl⟩).trans h.2.1, h.2.2⟩
  ) only [↓qt_eq])
theorem BagOk.there {H : Hp} {B : Option (Addr × Addr)} (h : BagOk H B) {a : Addr} (z : InB B a) : ∃ o, H a = some o := by
  obtain ⟨s, ok, h⟩ := h
  exact bag_there h z
theorem BagOk.ext {H H2 : Hp} {B : Option (Addr × Addr)} (h : BagOk H B) (e : Ex H H2) : BagOk H2 B := h.xb fun a z => by
  obtain ⟨o, q⟩ := h.there z
  rw [q, e _ _ q]
theorem BagOk.upd {H : Hp} {B : Option (Addr × Addr)} (h : BagOk H B) {p : Addr} {o : HO} (n : ¬ InB B p) : BagOk (upd H p o) B := h.xb fun a z => upd_ne fun e => n (e ▸ z)
/-- the state of a def's frame: slots, heap, bag, against the heap H0 at its entry -/
structure Sta (K : Fg) (W : Addr → Prop) (B : Option (Addr × Addr)) (ad : Nat → Addr) (H0 H : Hp) (σ : St) (G : Gam) : Prop where
  len : σ.length = G.length
  at_ : ∀ i e, G[i]? = some e → ∃ o, σ[i]? = some o ∧ Slot K B ad H (Zs W B ad G) i o e
  inj : ∀ i j c c', G[i]? = some (.ow c) → G[j]? = some (.ow c') → ad i = ad j → i = j
  sep : ∀ i c, G[i]? = some (.ow c) → H0 (ad i) = none ∧ ¬ InB B (ad i) ∧ ¬ W (ad i)
  base : ∀ a o, H0 a = some o → ¬ InB B a → H a = some o
  bag : BagOk H B
  wd : ∀ a, W a → ∃ o, H a = some o
section
variable {K : Fg} {W : Addr → Prop} {B : Option (Addr × Addr)} {ad : Nat → Addr} {H0 H H2 : Hp} {σ : St} {G G' : Gam}
theorem Slot.mono {Z Z' : Addr → Prop} {i : Nat} {o : Option V} {e : En} (h : Slot K B ad H Z i o e) (x : Ex (less H Z) (less H2 Z')) (y : ∀ c u, e = .ow c → H (ad i) = some u → H2 (ad i) = some u) : Slot K B ad H2 Z' i o e := qt_of (by simp (disch := with_unfolding_all
  cases e with
  | un => trivial
  | d d => obtain ⟨v, e, h⟩ := h; exact ⟨v, e, dp_mono x h⟩
  | ow c => obtain ⟨e, vs, h1, h2⟩ := h; exact ⟨e, vs, y c _ rfl h1, dpa_mono x h2⟩
  | bag => exact h
  | xc a d fs => exact ⟨h.1, x _ _ h.2⟩
  | fz c => obtain ⟨a, vs, e, h1, h2⟩ := h; exact ⟨a, vs, e, x _ _ h1, dpa_mono x h2⟩
  | vl v => exact h
  ) only [↓qt_eq])
theorem Sta.there (S : Sta K W B ad H0 H σ G) (a : Addr) (z : Zs W B ad G a) : ∃ o, H a = some o := by
  rcases z with z | ⟨i, c, g, rfl⟩ | z
  · exact S.wd _ z
  · obtain ⟨_, _, _, vs, h1, _⟩ := S.at_ i _ g
    exact ⟨_, h1⟩
  · exact S.bag.there z
/-- everything stays -/
theorem Sta.ext (S : Sta K W B ad H0 H σ G) (e : Ex H H2) : Sta K W B ad H0 H2 σ G where
  len := S.len
  at_ := fun i en h => by
    obtain ⟨o, h1, h2⟩ := S.at_ i en h
    exact ⟨o, h1, h2.mono (less_mono e) fun _ _ _ q => e _ _ q⟩
  inj := S.inj
  sep := S.sep
  base := fun a o h n => e _ _ (S.base a o h n)
  bag := S.bag.ext e
  wd := fun a z => by
    obtain ⟨o, h⟩ := S.wd a z
    exact ⟨o, e _ _ h⟩
/-- all but the bag stays -/
theorem Sta.drawn (S : Sta K W B ad H0 H σ G) (e : Xb B H H2) (b : BagOk H2 B) : Sta K W B ad H0 H2 σ G where
  len := S.len
  at_ := fun i en h => by
    obtain ⟨o, h1, h2⟩ := S.at_ i en h
    refine ⟨o, h1, h2.mono (less_but fun a o q z => e a o q fun y => z (.inr (.inr y))) fun c vs q q2 => ?_⟩
    subst q
    exact e _ _ q2 (S.sep i c h).2.1
  inj := S.inj
  sep := S.sep
  base := fun a o h n => e a o (S.base a o h n) n
  bag := b
  wd := fun a z => by
    by_cases hb : InB B a
    · exact b.there hb
    · obtain ⟨o, h⟩ := S.wd a z
      exact ⟨o, e _ _ h hb⟩
theorem Xb.lz {H H2 : Hp} (a : Xb B H H2) : Ex (less H (Zs W B ad G)) (less H2 (Zs W B ad G)) := less_but fun p o h n => a p o h fun z => n (.inr (.inr z))
theorem Zs.set_of {i : Nat} {e : En} (he : ∀ c, e ≠ .ow c) {a : Addr} (h : Zs W B ad (G.set i e) a) : Zs W B ad G a := by
  rcases h with h | ⟨j, c, h, r⟩ | h
  · exact .inl h
  · rcases get_set h with ⟨rfl, _, e'⟩ | ⟨_, h⟩
    · exact absurd e' (he c)
    · exact .inr (.inl ⟨j, c, h, r⟩)
  · exact .inr (.inr h)
/-- a slot gets a thing that is not of one's own -/
theorem Sta.set (S : Sta K W B ad H0 H σ G) {i : Nat} {e : En} {o : Option V} (he : ∀ c, e ≠ .ow c) (h : Slot K B ad H (Zs W B ad G) i o e) : Sta K W B ad H0 H (σ.set i o) (G.set i e) where
  len := by rw [List.length_set, List.length_set]; exact S.len
  at_ := fun j en g => by
    rcases get_set g with ⟨rfl, l, rfl⟩ | ⟨z, g⟩
    · refine ⟨o, List.getElem?_set_self (by rw [S.len]; exact l), h.mono (less_sub fun a q => Zs.set_of he q) fun _ _ _ q => q⟩
    · obtain ⟨o', h1, h2⟩ := S.at_ j en g
      exact ⟨o', by rw [List.getElem?_set_ne z]; exact h1, h2.mono (less_sub fun a q => Zs.set_of he q) fun _ _ _ q => q⟩
  inj := fun j k c c' g g' q => by
    rcases get_set g with ⟨rfl, l, e⟩ | ⟨z, g⟩
    · exact absurd e (he c)
    · rcases get_set g' with ⟨rfl, l, e⟩ | ⟨z', g'⟩
      · exact absurd e (he c')
      · exact S.inj j k c c' g g' q
  sep := fun j c g => by
    rcases get_set g with ⟨rfl, l, e⟩ | ⟨z, g⟩
    · exact absurd e (he c)
    · exact S.sep j c g
  base := S.base
  bag := S.bag
  wd := S.wd
theorem Sta.setD (S : Sta K W B ad H0 H σ G) {i : Nat} {v : V} {x : PyData} (h : Dp K (less H (Zs W B ad G)) v x) : Sta K W B ad H0 H (σ.set i (some v)) (G.set i (.d x)) :=
  S.set (fun _ z => by cases z) ⟨v, rfl, h⟩
theorem Sta.setU (S : Sta K W B ad H0 H σ G) {i : Nat} {o : Option V} : Sta K W B ad H0 H (σ.set i o) (G.set i .un) :=
  S.set (fun _ z => by cases z) trivial
theorem Sta.fresh (S : Sta K W B ad H0 H σ G) {p : Addr} (h : H p = none) : H0 p = none ∧ ¬ InB B p ∧ ¬ Zs W B ad G p := qt_of (by simp (disch := with_unfolding_all
  have hZ : ¬ Zs W B ad G p := fun z => by
    obtain ⟨o, q⟩ := S.there p z
    rw [h] at q; cases q
  have hB : ¬ InB B p := fun z => hZ (.inr (.inr z))
  refine ⟨?_, hB, hZ⟩
  cases e : H0 p with
  | none => rfl
  | some o => rw [S.base p o e hB] at h; cases h
  ) only [↓qt_eq])
theorem own_ex {i : Nat} {p : Addr} {u : HO} {c : Own} (hp : H p = none) : Ex (less H (Zs W B ad G)) (less (upd H p u) (Zs W B (swp ad i p) (G.set i (.ow c)))) := fun a o q => by
  obtain ⟨q1, q2⟩ := less_some q
  have na : a ≠ p := ne_of_none q2 hp
  refine less_of (fun z => ?_) (by rw [upd_ne na]; exact q2)
  rcases z with z | ⟨j, c, g, r⟩ | z
  · exact q1 (.inl z)
  · rcases get_set g with ⟨rfl, l, e⟩ | ⟨z, g⟩
    · rw [swp_same] at r; exact na r
    · rw [swp_ne z] at r
      exact q1 (.inr (.inl ⟨j, c, g, r⟩))
  · exact q1 (.inr (.inr z))
/-- a new thing of one's own -/
theorem Sta.setOwn (S : Sta K W B ad H0 H σ G) {i : Nat} {p : Addr} {vs : List V} {c : Own} (hp : H p = none) (h : DpAll K (less H (Zs W B ad G)) vs c.flat) :
    Sta K W B (swp ad i p) H0 (upd H p (c.obj p vs)) (σ.set i (some (.ref p))) (G.set i (.ow c)) := qt_of (by simp (disch := with_unfolding_all
  obtain ⟨h0, hB, hZ⟩ := S.fresh hp
  have ex : Ex (less H (Zs W B ad G)) (less (upd H p (c.obj p vs)) (Zs W B (swp ad i p) (G.set i (.ow c)))) := own_ex hp
  have hne : ∀ j c', G[j]? = some (.ow c') → ad j ≠ p := fun j c' g z => hZ (.inr (.inl ⟨j, c', g, z.symm⟩))
  refine ⟨by rw [List.length_set, List.length_set]; exact S.len, fun j en g => ?_, fun j k ys zs g g' q => ?_, fun j ys g => ?_, fun a o q n => ?_, S.bag.upd hB, fun a z => (S.wd a z).elim fun o q => upd_there q⟩
  · rcases get_set g with ⟨rfl, l, rfl⟩ | ⟨z, g⟩
    · exact ⟨_, List.getElem?_set_self (by rw [S.len]; exact l), by rw [swp_same], vs, by rw [swp_same]; exact upd_same, dpa_mono ex h⟩
    · obtain ⟨o', h1, h2⟩ := S.at_ j en g
      refine ⟨o', by rw [List.getElem?_set_ne z]; exact h1, ?_⟩
      cases en with
      | un => trivial
      | d d => obtain ⟨v, e, h⟩ := h2; exact ⟨v, e, dp_mono ex h⟩
      | ow ys =>
        obtain ⟨e, us, h3, h4⟩ := h2
        have hj : swp ad i p j = ad j := swp_ne z
        exact ⟨by rw [hj]; exact e, us, by rw [hj, upd_ne (hne j ys g)]; exact h3, dpa_mono ex h4⟩
      | bag => exact h2
      | xc a d fs => exact ⟨h2.1, ex _ _ h2.2⟩
      | fz c => obtain ⟨a, vs, e, h1, h2⟩ := h2; exact ⟨a, vs, e, ex _ _ h1, dpa_mono ex h2⟩
      | vl v => exact h2
  · rcases get_set g with ⟨rfl, l, e⟩ | ⟨z, g⟩
    · rcases get_set g' with ⟨rfl, l', e'⟩ | ⟨z', g'⟩
      · rfl
      · rw [swp_same, swp_ne z'] at q
        exact absurd q.symm (hne k zs g')
    · rcases get_set g' with ⟨rfl, l', e'⟩ | ⟨z', g'⟩
      · rw [swp_same, swp_ne z] at q
        exact absurd q (hne j ys g)
      · rw [swp_ne z, swp_ne z'] at q
        exact S.inj j k ys zs g g' q
  · rcases get_set g with ⟨rfl, l, e⟩ | ⟨z, g⟩
    · rw [swp_same]
      refine ⟨h0, hB, fun z => hZ (.inl z)⟩
    · rw [swp_ne z]; exact S.sep j ys g
  · rw [upd_ne (fun z => by rw [z, h0] at q; cases q)]
    exact S.base a o q n
  ) only [↓qt_eq])
theorem chg_zz {i : Nat} {c c' : Own} (hi : G[i]? = some (.ow c)) (a : Addr) : Zs W B ad (G.set i (.ow c')) a ↔ Zs W B ad G a := qt_of (by simp (disch := with_unfolding_all
  have il : i < G.length := (List.getElem?_eq_some_iff.mp hi).1
  constructor
  · rintro (h | ⟨j, zs, g, r⟩ | h)
    · exact .inl h
    · rcases get_set g with ⟨rfl, l, e⟩ | ⟨z, g⟩
      · exact .inr (.inl ⟨i, c, hi, r⟩)
      · exact .inr (.inl ⟨j, zs, g, r⟩)
    · exact .inr (.inr h)
  · rintro (h | ⟨j, zs, g, r⟩ | h)
    · exact .inl h
    · by_cases z : i = j
      · subst z
        exact .inr (.inl ⟨i, c', List.getElem?_set_self il, r⟩)
      · exact .inr (.inl ⟨j, zs, by rw [List.getElem?_set_ne z]; exact g, r⟩)
    · exact .inr (.inr h)
  ) only [↓qt_eq])
theorem chg_ex {i : Nat} {c c' : Own} {u : HO} (hi : G[i]? = some (.ow c)) : Ex (less H (Zs W B ad G)) (less (upd H (ad i) u) (Zs W B ad (G.set i (.ow c')))) := fun a o q => by
  obtain ⟨q1, q2⟩ := less_some q
  refine less_of (fun z => q1 ((chg_zz hi a).mp z)) ?_
  rw [upd_ne (fun z => q1 (.inr (.inl ⟨i, c, hi, z⟩)))]; exact q2
/-- a thing of one's own is changed -/
theorem Sta.chg (S : Sta K W B ad H0 H σ G) {i : Nat} {c c' : Own} {vs : List V} (hi : G[i]? = some (.ow c)) (h : DpAll K (less H (Zs W B ad G)) vs c'.flat) : Sta K W B ad H0 (upd H (ad i) (c'.obj (ad i) vs)) σ (G.set i (.ow c')) := qt_of (by simp (disch := with_unfolding_all
  have ex : Ex (less H (Zs W B ad G)) (less (upd H (ad i) (c'.obj (ad i) vs)) (Zs W B ad (G.set i (.ow c')))) := chg_ex hi
  obtain ⟨s0, sB, sW⟩ := S.sep i c hi
  refine ⟨by rw [List.length_set]; exact S.len, fun j en g => ?_, fun j k ys' zs g g' q => ?_, fun j zs g => ?_, fun a o q n => ?_, S.bag.upd sB, fun a z => (S.wd a z).elim fun o q => upd_there q⟩
  · rcases get_set g with ⟨rfl, l, rfl⟩ | ⟨z, g⟩
    · obtain ⟨o', h1, h2, _⟩ := S.at_ i _ hi
      exact ⟨o', h1, h2, vs, upd_same, dpa_mono ex h⟩
    · obtain ⟨o', h1, h2⟩ := S.at_ j en g
      refine ⟨o', h1, ?_⟩
      cases en with
      | un => trivial
      | d d => obtain ⟨v, e, h⟩ := h2; exact ⟨v, e, dp_mono ex h⟩
      | ow zs =>
        obtain ⟨e, us, h3, h4⟩ := h2
        exact ⟨e, us, by rw [upd_ne (fun w => z (S.inj i j c zs hi g w.symm))]; exact h3, dpa_mono ex h4⟩
      | bag => exact h2
      | xc a d fs => exact ⟨h2.1, ex _ _ h2.2⟩
      | fz c => obtain ⟨a, vs, e, h1, h2⟩ := h2; exact ⟨a, vs, e, ex _ _ h1, dpa_mono ex h2⟩
      | vl v => exact h2
  · rcases get_set g with ⟨rfl, l, e⟩ | ⟨z, g⟩
    · rcases get_set g' with ⟨rfl, l', e'⟩ | ⟨z', g'⟩
      · rfl
      · exact S.inj i k c zs hi g' q
    · rcases get_set g' with ⟨rfl, l', e'⟩ | ⟨z', g'⟩
      · exact S.inj j i ys' c g hi q
      · exact S.inj j k ys' zs g g' q
  · rcases get_set g with ⟨rfl, l, e⟩ | ⟨z, g⟩
    · exact S.sep i c hi
    · exact S.sep j zs g
  · rw [upd_ne (fun z => by rw [z, s0] at q; cases q)]
    exact S.base a o q n
  ) only [↓qt_eq])
/-- a list of one's own is from now on data -/
theorem Sta.freeze (S : Sta K W B ad H0 H σ G) {i : Nat} {xs : List PyData} (hi : G[i]? = some (.ow (ol xs))) : Sta K W B ad H0 H σ (G.set i (.d (.list xs))) := qt_of (by simp (disch := with_unfolding_all
  have ex : Ex (less H (Zs W B ad G)) (less H (Zs W B ad (G.set i (.d (.list xs))))) := less_sub fun a q => Zs.set_of (fun _ z => by cases z) q
  refine ⟨by rw [List.length_set]; exact S.len, fun j en g => ?_, fun j k ys' zs g g' q => ?_, fun j zs g => ?_, S.base, S.bag, S.wd⟩
  · rcases get_set g with ⟨rfl, l, rfl⟩ | ⟨z, g⟩
    · obtain ⟨o', h1, h2, vs, h3, h4⟩ := S.at_ i _ hi
      refine ⟨o', h1, _, h2, .lst (sq_of (less_of ?_ h3)) (dpa_mono ex h4)⟩
      rintro (z | ⟨j, zs, g, r⟩ | z)
      · exact (S.sep i _ hi).2.2 z
      · rcases get_set g with ⟨rfl, _, e⟩ | ⟨z, g⟩
        · cases e
        · exact z (S.inj i j _ zs hi g r)
      · exact (S.sep i _ hi).2.1 z
    · obtain ⟨o', h1, h2⟩ := S.at_ j en g
      exact ⟨o', h1, h2.mono ex fun _ _ _ q => q⟩
  · rcases get_set g with ⟨rfl, l, e⟩ | ⟨z, g⟩
    · cases e
    · rcases get_set g' with ⟨rfl, l', e'⟩ | ⟨z', g'⟩
      · cases e'
      · exact S.inj j k ys' zs g g' q
  · rcases get_set g with ⟨rfl, l, e⟩ | ⟨z, g⟩
    · cases e
    · exact S.sep j zs g
  ) only [↓qt_eq])
/-- a thing of one's own stays from now on as it is -/
theorem Sta.freezeO (S : Sta K W B ad H0 H σ G) {i : Nat} {c : Own} (hi : G[i]? = some (.ow c)) : Sta K W B ad H0 H σ (G.set i (.fz c)) := qt_of (by simp (disch := with_unfolding_all
  have ex : Ex (less H (Zs W B ad G)) (less H (Zs W B ad (G.set i (.fz c)))) := less_sub fun a q => Zs.set_of (fun _ z => by cases z) q
  refine ⟨by rw [List.length_set]; exact S.len, fun j en g => ?_, fun j k ys' zs g g' q => ?_, fun j zs g => ?_, S.base, S.bag, S.wd⟩
  · rcases get_set g with ⟨rfl, l, rfl⟩ | ⟨z, g⟩
    · obtain ⟨o', h1, h2, vs, h3, h4⟩ := S.at_ i _ hi
      refine ⟨o', h1, _, _, h2, less_of ?_ h3, dpa_mono ex h4⟩
      rintro (z | ⟨j, zs, g, r⟩ | z)
      · exact (S.sep i _ hi).2.2 z
      · rcases get_set g with ⟨rfl, _, e⟩ | ⟨z, g⟩
        · cases e
        · exact z (S.inj i j _ zs hi g r)
      · exact (S.sep i _ hi).2.1 z
    · obtain ⟨o', h1, h2⟩ := S.at_ j en g
      exact ⟨o', h1, h2.mono ex fun _ _ _ q => q⟩
  · rcases get_set g with ⟨rfl, l, e⟩ | ⟨z, g⟩
    · cases e
    · rcases get_set g' with ⟨rfl, l', e'⟩ | ⟨z', g'⟩
      · cases e'
      · exact S.inj j k ys' zs g g' q
  · rcases get_set g with ⟨rfl, l, e⟩ | ⟨z, g⟩
    · cases e
    · exact S.sep j zs g
  ) only [↓qt_eq])
/-- a thing of another's, which is new to this def, is changed -/
theorem Sta.foreign (S : Sta K W B ad H0 H σ G) {p : Addr} {o : HO} (hw : W p) (h0 : H0 p = none) (hB : ¬ InB B p) : Sta K W B ad H0 (upd H p o) σ G ∧ less (upd H p o) (Zs W B ad G) = less H (Zs W B ad G) := qt_of (by simp (disch := with_unfolding_all
  have el : less (upd H p o) (Zs W B ad G) = less H (Zs W B ad G) := by
    funext a
    by_cases z : Zs W B ad G a
    · rw [less_yes z, less_yes z]
    · rw [less_no z, less_no z, upd_ne (fun e => z (.inl (by rw [e]; exact hw)))]
  refine ⟨⟨S.len, fun i e h => ?_, S.inj, S.sep, fun a u q n => ?_, S.bag.upd hB, fun a z => (S.wd a z).elim fun o q => upd_there q⟩, el⟩
  · obtain ⟨u, g1, g2⟩ := S.at_ i e h
    refine ⟨u, g1, g2.mono (by rw [el]; exact Ex.refl _) fun c vs q q2 => ?_⟩
    subst q
    rw [upd_ne (fun z => (S.sep i c h).2.2 (by rw [z]; exact hw))]; exact q2
  · rw [upd_ne (fun z => by rw [z, h0] at q; cases q)]; exact S.base a u q n
  ) only [↓qt_eq])
/-- a new thing is for a while another's -/
theorem Sta.lend (S : Sta K W B ad H0 H σ G) {p : Addr} {o : HO} (hp : H p = none) : Sta K (fun a => W a ∨ a = p) B ad H0 (upd H p o) σ G ∧ less (upd H p o) (Zs (fun a => W a ∨ a = p) B ad G) = less H (Zs W B ad G) := qt_of (by simp (disch := with_unfolding_all
  obtain ⟨_, _, np⟩ := S.fresh hp
  have zz : ∀ a, Zs (fun a => W a ∨ a = p) B ad G a ↔ Zs W B ad G a ∨ a = p := fun a => by
    constructor
    · rintro ((z | z) | z | z)
      · exact .inl (.inl z)
      · exact .inr z
      · exact .inl (.inr (.inl z))
      · exact .inl (.inr (.inr z))
    · rintro ((z | z | z) | z)
      · exact .inl (.inl z)
      · exact .inr (.inl z)
      · exact .inr (.inr z)
      · exact .inl (.inr z)
  have el : less (upd H p o) (Zs (fun a => W a ∨ a = p) B ad G) = less H (Zs W B ad G) := by
    funext a
    by_cases e : a = p
    · rw [less_yes ((zz a).mpr (.inr e)), e, less_no np, hp]
    · by_cases z : Zs W B ad G a
      · rw [less_yes z, less_yes ((zz a).mpr (.inl z))]
      · rw [less_no z, less_no (fun y => ((zz a).mp y).elim z e), upd_ne e]
  have ex : Ex H (upd H p o) := Ex.new hp
  have S' := S.ext ex
  refine ⟨⟨S.len, fun i e h => ?_, S.inj, fun i c h => ⟨(S.sep i c h).1, (S.sep i c h).2.1, fun z => z.elim (S.sep i c h).2.2 fun z => np (by rw [← z]; exact .inr (.inl ⟨i, c, h, rfl⟩))⟩, S'.base, S'.bag, fun a z => z.elim (fun z => S'.wd a z) fun z => ⟨o, by rw [z]; exact upd_same⟩⟩, el⟩
  obtain ⟨u, g1, g2⟩ := S.at_ i e h
  exact ⟨u, g1, g2.mono (by rw [el]; exact Ex.refl _) fun c vs q q2 => ex _ _ q2⟩
  ) only [↓qt_eq])
/-- .. and is given back -/
theorem Sta.back {p : Addr} (S : Sta K (fun a => W a ∨ a = p) B ad H0 H σ G) : Sta K W B ad H0 H σ G ∧ Ex (less H (Zs (fun a => W a ∨ a = p) B ad G)) (less H (Zs W B ad G)) := qt_of (by simp (disch := with_unfolding_all
  have ex : Ex (less H (Zs (fun a => W a ∨ a = p) B ad G)) (less H (Zs W B ad G)) := less_sub fun a z => z.elim (fun z => .inl (.inl z)) .inr
  refine ⟨⟨S.len, fun i e h => ?_, S.inj, fun i c h => ⟨(S.sep i c h).1, (S.sep i c h).2.1, fun z => (S.sep i c h).2.2 (.inl z)⟩, S.base, S.bag, fun a z => S.wd a (.inl z)⟩, ex⟩
  obtain ⟨u, g1, g2⟩ := S.at_ i e h
  exact ⟨u, g1, g2.mono ex fun _ _ _ q => q⟩
  ) only [↓qt_eq])
theorem new_ex (S : Sta K W B ad H0 H σ G) {p : Addr} {o : HO} (h : H p = none) :
    Sta K W B ad H0 (upd H p o) σ G ∧ Xb B H (upd H p o) ∧ less (upd H p o) (Zs W B ad G) p = some o := by
  have e : Ex H (upd H p o) := Ex.new h
  exact ⟨S.ext e, .of e, less_of (S.fresh h).2.2 upd_same⟩
end
end U.N

end
section
namespace U.N
open PySem PyProof.Rows L2 Evl
/-! ### relations by name -/
@[irreducible] def rAddI : R2 := rI0 fun i j => .int (i + j)
@[irreducible] def rSubI : R2 := rI0 fun i j => .int (i - j)
@[irreducible] def rMulI : R2 := rI CMulW fun i j => .int (i * j)
@[irreducible] def rDivI : R2 := rI CDvX fun i j => .int (i.fdiv j)
@[irreducible] def rLtI : R2 := rI0 fun i j => .bl (decide (i < j))
@[irreducible] def rLeI : R2 := rI0 fun i j => .bl (decide (i ≤ j))
@[irreducible] def rGtI : R2 := rI0 fun i j => .bl (decide (j < i))
@[irreducible] def rGeI : R2 := rI0 fun i j => .bl (decide (j ≤ i))
@[irreducible] def rNegI : V → Hp → VK → Prop := rU fun i => .int (-i)
section
variable {X : Cx}
theorem op_addI : OpR X (binaryOp .Add) rAddI := by unfold rAddI; exact op_add
theorem op_subI : OpR X (binaryOp .Sub) rSubI := by unfold rSubI; exact op_sub
theorem op_mulI : OpR X (binaryOp .Mult) rMulI := by unfold rMulI; exact op_mulW
theorem op_divI : OpR X (binaryOp .FloorDiv) rDivI := by unfold rDivI; exact op_fdivX
theorem op_ltI : OpR X (compareOp .Lt) rLtI := by unfold rLtI; exact op_lt
theorem op_leI : OpR X (compareOp .LtE) rLeI := by unfold rLeI; exact op_le
theorem op_gtI : OpR X (compareOp .Gt) rGtI := by unfold rGtI; exact op_gt
theorem op_geI : OpR X (compareOp .GtE) rGeI := by unfold rGeI; exact op_ge
theorem un_negI : UnR X (unaryOp .USub) rNegI := by unfold rNegI; exact un_neg
end
/-! ### what is wanted -/
section
variable (K : Fg) (cs : Cs) (W : WX)
/-- what may leave by raising -/
noncomputable def XP (Wd : Addr → Prop) (B : Option (Addr × Addr)) (ad : Nat → Addr) (H0 H : Hp) (σ : St) (G : Gam) (ε : Xw → Prop) : Prop :=
  ∀ e, ε e → ∀ d H2, Sta K Wd B ad H0 H2 σ G → Xb B H H2 → H0 d = none → less H2 (Zs Wd B ad G) d = some (.xd e.fs) → W (.ref (cs e.cls)) (some d) σ H2
noncomputable def EW (te : TE) (G : Gam) (φ : PyData → Prop) (ε : Xw → Prop) : Prop :=
  ∀ Wd B ad H0 H σ, Sta K Wd B ad H0 H σ G → ∀ Q : VK, (∀ x, φ x → ∀ v H2, Sta K Wd B ad H0 H2 σ G → Xb B H H2 → Dp K (less H2 (Zs Wd B ad G)) v x → Q v H2) → XP K cs W Wd B ad H0 H σ G ε → te σ H Q
/-- a new thing of one's own -/
noncomputable def EF (te : TE) (G : Gam) (ψ : Own → Prop) (ε : Xw → Prop) : Prop :=
  ∀ Wd B ad H0 H σ, Sta K Wd B ad H0 H σ G → ∀ Q : VK, (∀ c, ψ c → ∀ a vs H2, Sta K Wd B ad H0 H2 σ G → Xb B H H2 → H2 a = none → DpAll K (less H2 (Zs Wd B ad G)) vs c.flat → Q (.ref a) (upd H2 a (c.obj a vs))) → XP K cs W Wd B ad H0 H σ G ε → te σ H Q
noncomputable def TW (tt : TT) (G : Gam) (ψ : Bool → Prop) (ε : Xw → Prop) : Prop :=
  ∀ Wd B ad H0 H σ, Sta K Wd B ad H0 H σ G → ∀ Q : Bool → Hp → Prop, (∀ b, ψ b → ∀ H2, Sta K Wd B ad H0 H2 σ G → Xb B H H2 → Q b H2) → XP K cs W Wd B ad H0 H σ G ε → tt σ H Q
noncomputable def AW (ta : TA) (G : Gam) (α : List PyData → Prop) (ε : Xw → Prop) : Prop :=
  ∀ Wd B ad H0 H σ, Sta K Wd B ad H0 H σ G → ∀ Q : List V → Hp → Prop, (∀ xs, α xs → ∀ vs H2, Sta K Wd B ad H0 H2 σ G → Xb B H H2 → DpAll K (less H2 (Zs Wd B ad G)) vs xs → Q vs H2) → XP K cs W Wd B ad H0 H σ G ε → ta σ H Q
noncomputable def IW (wi : TI) (G : Gam) (ι : List PyData → Prop) (ε : Xw → Prop) : Prop :=
  ∀ Wd B ad H0 H σ, Sta K Wd B ad H0 H σ G → ∀ R : It → Hp → Prop, (∀ ds, ι ds → ∀ J H1, Sta K Wd B ad H0 H1 σ G → Xb B H H1 → ItOk K J ds (less H1 (Zs Wd B ad G)) → R J H1) → XP K cs W Wd B ad H0 H σ G ε → wi σ H R
noncomputable def OW (to : TO) (G : Gam) (ψ : Option Int → Prop) (ε : Xw → Prop) : Prop :=
  ∀ Wd B ad H0 H σ, Sta K Wd B ad H0 H σ G → ∀ Q : Option Int → Hp → Prop, (∀ o, ψ o → ∀ H2, Sta K Wd B ad H0 H2 σ G → Xb B H H2 → Q o H2) → XP K cs W Wd B ad H0 H σ G ε → to σ H Q
inductive Out where
  | nx (G : Gam)
  | rt (x : PyData)
  | rl (c : Own)
  | bk (G : Gam)
  | ct (G : Gam)
  | ex (e : Xw) (G : Gam)
noncomputable def PostO (Wd : Addr → Prop) (B : Option (Addr × Addr)) (H0 M : Hp) (D : Ends) : Out → Prop
  | .nx G => ∀ ad H σ, Sta K Wd B ad H0 H σ G → Ex M (less H (Zs Wd B ad G)) → D.nx σ H
  | .rt x => ∀ v H, Xb B H0 H → BagOk H B → Dp K (less H fun a => Wd a ∨ InB B a) v x → D.rt v H
  | .rl c => ∀ a vs H, Xb B H0 H → BagOk H B → H0 a = none → H a = some (c.obj a vs) → DpAll K (less H fun b => (Wd b ∨ InB B b) ∨ b = a) vs c.flat → D.rt (.ref a) H
  | .bk G => ∀ ad H σ, Sta K Wd B ad H0 H σ G → Ex M (less H (Zs Wd B ad G)) → D.bk σ H
  | .ct G => ∀ ad H σ, Sta K Wd B ad H0 H σ G → Ex M (less H (Zs Wd B ad G)) → D.ct σ H
  | .ex e G => ∀ d ad H σ, Sta K Wd B ad H0 H σ G → Ex M (less H (Zs Wd B ad G)) → H0 d = none → less H (Zs Wd B ad G) d = some (.xd e.fs) → W (.ref (cs e.cls)) (some d) σ H
noncomputable def SW (ts : TS) (G : Gam) (Φ : Out → Prop) : Prop :=
  ∀ Wd B ad H0 H σ (D : Ends), Sta K Wd B ad H0 H σ G → (∀ o, Φ o → PostO K cs W Wd B H0 (less H (Zs Wd B ad G)) D o) → ts D σ H
end
noncomputable def Cnd (b : Bool) (P Q : Prop) : Prop := (b = true → P) ∧ (b = false → Q)
section
variable {P Q : Prop} {b : Bool}
theorem cnd_t (p : P) : Cnd true P Q := ⟨fun _ => p, (nomatch ·)⟩
theorem cnd_f (q : Q) : Cnd false P Q := ⟨(nomatch ·), fun _ => q⟩
theorem cnd_nt (q : Q) : Cnd (!true) P Q := cnd_f q
theorem cnd_nf (p : P) : Cnd (!false) P Q := cnd_t p
theorem cnd_T (h : b = true) (p : P) : Cnd b P Q := ⟨fun _ => p, fun h' => by rw [h] at h'; cases h'⟩
theorem cnd_F (h : b = false) (q : Q) : Cnd b P Q := ⟨fun h' => (by rw [h] at h'; cases h'), fun _ => q⟩
theorem cnd_b (p : b = true → P) (q : b = false → Q) : Cnd b P Q := ⟨p, q⟩
theorem cnd_yes {p : Prop} [Decidable p] (h : p) (x : P) : Cnd (decide p) P Q := cnd_T (decide_eq_true h) x
theorem cnd_no {p : Prop} [Decidable p] (h : ¬ p) (x : Q) : Cnd (decide p) P Q := cnd_F (decide_eq_false h) x
theorem cnd_d {p : Prop} [Decidable p] (x : p → P) (y : ¬ p → Q) : Cnd (decide p) P Q := ⟨fun h => x (of_decide_eq_true h), fun h => y (of_decide_eq_false h)⟩
theorem cnd_nd {p : Prop} [Decidable p] (x : ¬ p → P) (y : p → Q) : Cnd (!decide p) P Q := ⟨fun h => x (fun z => by rw [decide_eq_true z] at h; cases h), fun h => y (Classical.byContradiction fun z => by rw [decide_eq_false z] at h; cases h)⟩
end
section
variable {K : Fg} {cs : Cs} {W : WX} {G G' G1 G2 : Gam} {ta tb tc te : TE} {t u : TT} {φ : PyData → Prop} {ε : Xw → Prop} {ψ : Bool → Prop} {α : List PyData → Prop} {ι : List PyData → Prop} {χ : Own → Prop} {ω : Option Int → Prop}
variable {Wd : Addr → Prop} {B : Option (Addr × Addr)} {ad : Nat → Addr} {H0 H H1 H2 : Hp} {σ : St}
theorem XP.go (h : XP K cs W Wd B ad H0 H σ G ε) (x : Xb B H H1) : XP K cs W Wd B ad H0 H1 σ G ε := fun e he d H2 S y hd hx => h e he d H2 S (x.trans y) hd hx
theorem ew_mono {φ' : PyData → Prop} (h : EW K cs W te G φ ε) (m : ∀ x, φ x → φ' x) : EW K cs W te G φ' ε := fun Wd B ad H0 H σ S Q q x => h Wd B ad H0 H σ S Q (fun y hy => q y (m y hy)) x
theorem aw_mono {α' : List PyData → Prop} {ta : TA} (h : AW K cs W ta G α ε) (m : ∀ x, α x → α' x) : AW K cs W ta G α' ε := fun Wd B ad H0 H σ S Q q x => h Wd B ad H0 H σ S Q (fun y hy => q y (m y hy)) x
theorem tw_mono {ψ' : Bool → Prop} (h : TW K cs W t G ψ ε) (m : ∀ x, ψ x → ψ' x) : TW K cs W t G ψ' ε := fun Wd B ad H0 H σ S Q q x => h Wd B ad H0 H σ S Q (fun y hy => q y (m y hy)) x
/-! ### values -/
theorem ew_var {i : Nat} {x : PyData} (h : G[i]? = some (.d x)) (p : φ x) : EW K cs W (tVar i) G φ ε := fun Wd B ad H0 H σ S Q q _ => by
  obtain ⟨o, h1, v, rfl, h2⟩ := S.at_ i _ h
  exact ⟨v, h1, q x p v H S Xb.refl h2⟩
theorem ew_glob {v : V} {x : PyData} (h : ∀ H, Dp K H v x) (p : φ x) : EW K cs W (tC v) G φ ε := fun Wd B ad H0 H σ S Q q _ => q x p _ H S Xb.refl (h _)
theorem ew_int {i : Int} (p : φ (.int i)) : EW K cs W (tC (.int i)) G φ ε := ew_glob (fun _ => .int i) p
theorem ew_bl {b : Bool} (p : φ (.bool b)) : EW K cs W (tC (.bl b)) G φ ε := ew_glob (fun _ => .bl b) p
theorem ew_str {b : Str} (p : φ (.str b)) : EW K cs W (tC (.str b)) G φ ε := ew_glob (fun _ => .str b) p
theorem ew_non (p : φ .none) : EW K cs W (tC .non) G φ ε := ew_glob (fun _ => .non) p
/-! ### arguments, displays -/
theorem aw_nil (p : α []) : AW K cs W tNil G α ε := fun Wd B ad H0 H σ S Q q _ => q _ p _ H S Xb.refl .nil
theorem aw_cons {tr : TA} (h : EW K cs W ta G (fun x => AW K cs W tr G (fun xs => α (x :: xs)) ε) ε) : AW K cs W (tCons ta tr) G α ε := fun Wd B ad H0 H σ S Q q x =>
  h Wd B ad H0 H σ S _ (fun x1 p1 v H1 S1 e1 d1 => p1 Wd B ad H0 H1 σ S1 _ (fun xs p2 vs H2 S2 e2 d2 => q _ p2 _ H2 S2 (e1.trans e2) (.cons (dp_mono (Xb.lz e2) d1) d2)) (x.go e1)) x
theorem ew_ef (h : EF K cs W te G (fun c => ∃ xs, c = ol xs ∧ φ (.list xs)) ε) : EW K cs W te G φ ε := fun Wd B ad H0 H σ S Q q x =>
  h Wd B ad H0 H σ S _ (fun c p a vs H2 S2 e2 hn d => by
    obtain ⟨xs, rfl, p⟩ := p
    obtain ⟨S3, e3, g⟩ := new_ex (o := .lst vs) S2 hn
    exact q _ p _ _ S3 (e2.trans e3) (.lst (sq_of g) (dpa_mono (Xb.lz e3) d))) x
theorem ew_tup {ta : TA} (h : AW K cs W ta G (fun xs => xs.length ≤ 16000000 ∧ φ (.tuple xs)) ε) : EW K cs W (tTup ta) G φ ε := fun Wd B ad H0 H σ S Q q x =>
  h Wd B ad H0 H σ S _ (fun xs p vs H1 S1 e1 d1 => ⟨by rw [dpa_len d1]; exact sz_line p.1, fun a ha => by
    obtain ⟨S2, e2, g⟩ := new_ex (o := .tup vs) S1 ha
    exact q _ p.2 _ _ S2 (e1.trans e2) (.tup (st_of g) (dpa_mono (Xb.lz e2) d1))⟩) x
theorem ef_lst {ta : TA} (h : AW K cs W ta G (fun xs => xs.length ≤ 16000000 ∧ χ (ol xs)) ε) : EF K cs W (tLst ta) G χ ε := fun Wd B ad H0 H σ S Q q x =>
  h Wd B ad H0 H σ S _ (fun xs p vs H1 S1 e1 d1 => ⟨by rw [dpa_len d1]; exact sz_line p.1, fun a ha => q _ p.2 a vs H1 S1 e1 ha d1⟩) x
theorem ew_lst {ta : TA} (h : AW K cs W ta G (fun xs => xs.length ≤ 16000000 ∧ φ (.list xs)) ε) : EW K cs W (tLst ta) G φ ε := ew_ef (ef_lst (aw_mono h fun xs p => ⟨p.1, xs, rfl, p.2⟩))
/-! ### operators -/
theorem ew_op {r : R2} (h : EW K cs W ta G (fun x => EW K cs W tb G (fun y => ∀ Wd B ad H0 H σ v w, Sta K Wd B ad H0 H σ G → Dp K (less H (Zs Wd B ad G)) v x → Dp K (less H (Zs Wd B ad G)) w y → ∀ Q : VK, (∀ z, φ z → ∀ v H2, Sta K Wd B ad H0 H2 σ G → Xb B H H2 → Dp K (less H2 (Zs Wd B ad G)) v z → Q v H2) → r v w H Q) ε) ε) : EW K cs W (tOp r ta tb) G φ ε := fun Wd B ad H0 H σ S Q q x =>
  h Wd B ad H0 H σ S _ (fun x1 p1 v H1 S1 e1 d1 => p1 Wd B ad H0 H1 σ S1 _ (fun y p2 w H2 S2 e2 d2 => p2 Wd B ad H0 H2 σ v w S2 (dp_mono (Xb.lz e2) d1) d2 Q fun z p v H3 S3 e3 d3 => q z p v H3 S3 ((e1.trans e2).trans e3) d3) (x.go e1)) x
theorem ew_I0 {g : Int → Int → V} {f : Int → Int → PyData} (hg : ∀ i j H, Dp K H (g i j) (f i j)) (h : EW K cs W ta G (fun x => ∃ i, x = .int i ∧ EW K cs W tb G (fun y => ∃ j, y = .int j ∧ φ (f i j)) ε) ε) : EW K cs W (tOp (rI0 g) ta tb) G φ ε :=
  ew_op (ew_mono h fun x ⟨i, e, h⟩ => ew_mono h fun y ⟨j, e2, p⟩ => fun Wd B ad H0 H σ v w S d1 d2 Q q => by
    subst e; subst e2
    cases d1; cases d2
    exact ⟨i, j, rfl, rfl, q _ p _ H S Xb.refl (hg i j _)⟩)
theorem ew_I {C : Int → Int → Prop} {g : Int → Int → V} {f : Int → Int → PyData} (hg : ∀ i j H, Dp K H (g i j) (f i j)) (h : EW K cs W ta G (fun x => ∃ i, x = .int i ∧ EW K cs W tb G (fun y => ∃ j, y = .int j ∧ C i j ∧ φ (f i j)) ε) ε) : EW K cs W (tOp (rI C g) ta tb) G φ ε :=
  ew_op (ew_mono h fun x ⟨i, e, h⟩ => ew_mono h fun y ⟨j, e2, c, p⟩ => fun Wd B ad H0 H σ v w S d1 d2 Q q => by
    subst e; subst e2
    cases d1; cases d2
    exact ⟨i, j, rfl, rfl, c, q _ p _ H S Xb.refl (hg i j _)⟩)
theorem ew_add (h : EW K cs W ta G (fun x => ∃ i, x = .int i ∧ EW K cs W tb G (fun y => ∃ j, y = .int j ∧ φ (.int (i + j))) ε) ε) : EW K cs W (tOp rAddI ta tb) G φ ε := by unfold rAddI; exact ew_I0 (f := fun i j => .int (i + j)) (fun _ _ _ => .int _) h
theorem ew_sub (h : EW K cs W ta G (fun x => ∃ i, x = .int i ∧ EW K cs W tb G (fun y => ∃ j, y = .int j ∧ φ (.int (i - j))) ε) ε) : EW K cs W (tOp rSubI ta tb) G φ ε := by unfold rSubI; exact ew_I0 (f := fun i j => .int (i - j)) (fun _ _ _ => .int _) h
theorem ew_mul (h : EW K cs W ta G (fun x => ∃ i, x = .int i ∧ EW K cs W tb G (fun y => ∃ j, y = .int j ∧ CMulW i j ∧ φ (.int (i * j))) ε) ε) : EW K cs W (tOp rMulI ta tb) G φ ε := by unfold rMulI; exact ew_I (f := fun i j => .int (i * j)) (fun _ _ _ => .int _) h
theorem ew_div (h : EW K cs W ta G (fun x => ∃ i, x = .int i ∧ EW K cs W tb G (fun y => ∃ j, y = .int j ∧ CDvX i j ∧ φ (.int (i.fdiv j))) ε) ε) : EW K cs W (tOp rDivI ta tb) G φ ε := by unfold rDivI; exact ew_I (f := fun i j => .int (i.fdiv j)) (fun _ _ _ => .int _) h
theorem ew_lt (h : EW K cs W ta G (fun x => ∃ i, x = .int i ∧ EW K cs W tb G (fun y => ∃ j, y = .int j ∧ φ (.bool (decide (i < j)))) ε) ε) : EW K cs W (tOp rLtI ta tb) G φ ε := by unfold rLtI; exact ew_I0 (f := fun i j => .bool (decide (i < j))) (fun _ _ _ => .bl _) h
theorem ew_le (h : EW K cs W ta G (fun x => ∃ i, x = .int i ∧ EW K cs W tb G (fun y => ∃ j, y = .int j ∧ φ (.bool (decide (i ≤ j)))) ε) ε) : EW K cs W (tOp rLeI ta tb) G φ ε := by unfold rLeI; exact ew_I0 (f := fun i j => .bool (decide (i ≤ j))) (fun _ _ _ => .bl _) h
theorem ew_gt (h : EW K cs W ta G (fun x => ∃ i, x = .int i ∧ EW K cs W tb G (fun y => ∃ j, y = .int j ∧ φ (.bool (decide (j < i)))) ε) ε) : EW K cs W (tOp rGtI ta tb) G φ ε := by unfold rGtI; exact ew_I0 (f := fun i j => .bool (decide (j < i))) (fun _ _ _ => .bl _) h
theorem ew_ge (h : EW K cs W ta G (fun x => ∃ i, x = .int i ∧ EW K cs W tb G (fun y => ∃ j, y = .int j ∧ φ (.bool (decide (j ≤ i)))) ε) ε) : EW K cs W (tOp rGeI ta tb) G φ ε := by unfold rGeI; exact ew_I0 (f := fun i j => .bool (decide (j ≤ i))) (fun _ _ _ => .bl _) h
theorem ew_neg (h : EW K cs W ta G (fun x => ∃ i, x = .int i ∧ φ (.int (-i))) ε) : EW K cs W (tUn rNegI ta) G φ ε := by
 unfold rNegI
 exact fun Wd B ad H0 H σ S Q q x => h Wd B ad H0 H σ S _ (fun y ⟨i, e, p⟩ v H1 S1 e1 d1 => by
    subst e
    cases d1
    exact ⟨i, rfl, q _ p _ H1 S1 e1 (.int _)⟩) x
/-- == of scalars -/
noncomputable def scEq : PyData → PyData → Option Bool
  | .int i, .int j => some (decide (i = j))
  | .str i, .str j => some (decide (i = j))
  | .bool i, .bool j => some (decide (i = j))
  | .none, .none => some true
  | _, _ => none
theorem sc_eq {H : Hp} {v w : V} {x y : PyData} {b : Bool} (d1 : Dp K H v x) (d2 : Dp K H w y) (h : scEq x y = some b) : scal v w = true ∧ decide (v = w) = b := by
  cases d1 <;> cases d2 <;> first | (cases h; done) | skip
  · cases h; exact ⟨rfl, rfl⟩
  · cases h; exact ⟨rfl, by simp⟩
  · cases h; exact ⟨rfl, by simp⟩
  · cases h; exact ⟨rfl, by simp⟩
theorem ew_eq (h : EW K cs W ta G (fun x => EW K cs W tb G (fun y => ∃ b, scEq x y = some b ∧ φ (.bool b)) ε) ε) : EW K cs W (tOp rEq ta tb) G φ ε :=
  ew_op (ew_mono h fun x h => ew_mono h fun y ⟨b, e, p⟩ => fun Wd B ad H0 H σ v w S d1 d2 Q q => by
    obtain ⟨h1, h2⟩ := sc_eq d1 d2 e
    exact ⟨h1, by rw [h2]; exact q _ p _ H S Xb.refl (.bl _)⟩)
theorem ew_ne (h : EW K cs W ta G (fun x => EW K cs W tb G (fun y => ∃ b, scEq x y = some b ∧ φ (.bool (!b))) ε) ε) : EW K cs W (tOp rNe ta tb) G φ ε :=
  ew_op (ew_mono h fun x h => ew_mono h fun y ⟨b, e, p⟩ => fun Wd B ad H0 H σ v w S d1 d2 Q q => by
    obtain ⟨h1, h2⟩ := sc_eq d1 d2 e
    exact ⟨h1, by rw [h2]; exact q _ p _ H S Xb.refl (.bl _)⟩)
theorem ew_eqD (h : EW K cs W ta G (fun x => EW K cs W tb G (fun y => SeqAt.shaped x = true ∧ SeqAt.shaped y = true ∧ φ (.bool (PyData.eqv x y))) ε) ε) : EW K cs W (tOp (rEqD K) ta tb) G φ ε :=
  ew_op (ew_mono h fun x h => ew_mono h fun y ⟨h1, h2, p⟩ => fun Wd B ad H0 H σ v w S d1 d2 Q q => ⟨x, y, dp_mono less_ex d1, dp_mono less_ex d2, h1, h2, q _ p _ H S Xb.refl (.bl _)⟩)
theorem ew_neD (h : EW K cs W ta G (fun x => EW K cs W tb G (fun y => SeqAt.shaped x = true ∧ SeqAt.shaped y = true ∧ φ (.bool (!PyData.eqv x y))) ε) ε) : EW K cs W (tOp (rNeD K) ta tb) G φ ε :=
  ew_op (ew_mono h fun x h => ew_mono h fun y ⟨h1, h2, p⟩ => fun Wd B ad H0 H σ v w S d1 d2 Q q => ⟨x, y, dp_mono less_ex d1, dp_mono less_ex d2, h1, h2, q _ p _ H S Xb.refl (.bl _)⟩)
theorem ew_chain {r r' : R2} {f f' : Int → Int → Bool} (hr : ∀ i j H Q, Q (V.bl (f i j)) H → r (.int i) (.int j) H Q) (hr' : ∀ i j H Q, Q (V.bl (f' i j)) H → r' (.int i) (.int j) H Q)
    (h : EW K cs W ta G (fun x => ∃ i, x = .int i ∧ EW K cs W tb G (fun y => ∃ j, y = .int j ∧ Cnd (f i j) (EW K cs W tc G (fun z => ∃ k, z = .int k ∧ φ (.bool (f' j k))) ε) (φ (.bool false))) ε) ε) : EW K cs W (tChain r r' ta tb tc) G φ ε := fun Wd B ad H0 H σ S Q q x =>
  h Wd B ad H0 H σ S _ (fun x1 ⟨i, ei, p1⟩ v H1 S1 e1 d1 => p1 Wd B ad H0 H1 σ S1 _ (fun y ⟨j, ej, p2⟩ w H2 S2 e2 d2 => by
    subst ei; subst ej
    cases d1; cases d2
    refine hr i j H2 _ ⟨f i j, rfl, ?_⟩
    cases hf : f i j with
    | false => exact q _ (p2.2 hf) _ H2 S2 (e1.trans e2) (.bl _)
    | true =>
      refine p2.1 hf Wd B ad H0 H2 σ S2 _ (fun z ⟨k, ek, p3⟩ u H3 S3 e3 d3 => ?_) ((x.go e1).go e2)
      subst ek
      cases d3
      exact hr' j k H3 _ (q _ p3 _ H3 S3 ((e1.trans e2).trans e3) (.bl _))) (x.go e1)) x
theorem ew_leLe (h : EW K cs W ta G (fun x => ∃ i, x = .int i ∧ EW K cs W tb G (fun y => ∃ j, y = .int j ∧ Cnd (decide (i ≤ j)) (EW K cs W tc G (fun z => ∃ k, z = .int k ∧ φ (.bool (decide (j ≤ k)))) ε) (φ (.bool false))) ε) ε) : EW K cs W (tChain rLeI rLeI ta tb tc) G φ ε :=
  ew_chain (fun i j H Q q => by unfold rLeI; exact ⟨i, j, rfl, rfl, q⟩) (fun i j H Q q => by unfold rLeI; exact ⟨i, j, rfl, rfl, q⟩) h
end
end U.N

end
section
/-! zip of two things, each a list or a tuple, strict or not. -/
namespace U
open PySem PySem.W PyProof.Rows L2 Evl
inductive Kd where
  | L
  | T
noncomputable def SqK : Kd → Heap → Addr → Array Value → Prop
  | .L, h, l, xs => h.IsList l xs
  | .T, h, l, xs => h.IsTuple l xs
section
variable {prog : Program} {w : World} {A : Around} {E : Value → Shared → Prop} {s : Shared}
end
end U

end
section
/-! zip(a, b, strict=True) and zip(a, b): the end, the making. -/
namespace U
open PySem PySem.W PyProof.Rows L2 Evl
section
variable {prog : Program} {w : World} {A : Around} {E : Value → Shared → Prop} {s : Shared}
/-! ### the making -/
end
section
variable {prog : Program} {w : World} {A : Around} {E : Value → Shared → Prop} {s : Shared}
end
end U

end
section
namespace U
open PySem PySem.W PyProof.Rows L2 Evl
section
variable {prog : Program} {w : World} {A : Around} {E : Value → Shared → Prop} {s : Shared}
end
end U

end
section
namespace U
open PySem PySem.W PyProof.Rows L2 Evl
section
variable {prog : Program} {w : World} {A : Around} {E : Value → Shared → Prop} {s : Shared}
end
noncomputable def SqV (K : Fg) : Kd → Hp → Addr → List V → Prop
  | .L, H, a, xs => SqL K H a xs
  | .T, H, a, xs => SqT K H a xs
theorem SqV.inv {X : Cx} {pins : List (Addr × Obj)} {σ : St} {H : Hp} {s : Shared} {k : Kd} {a : Addr} {xs : List V} (I : Inv X pins σ H s) (h : SqV X.K k H a xs) : ∃ its, Vals xs its ∧ SqK k s.heap a its.toArray ∧ a < s.heap.objs.size := qt_of (by simp (disch := with_unfolding_all
  cases k with
  | L =>
    obtain ⟨its, rv, p, _⟩ := I.list h
    exact ⟨its, rv, p.isList, p.lt⟩
  | T =>
    obtain ⟨its, rv, p, _⟩ := I.tuple h
    obtain ⟨o, ho, _⟩ := id p
    exact ⟨its, rv, p, Heap.lt_size ho⟩
  ) only [↓qt_eq])
section
variable {M : Model} {A : Around} {E : Value → Shared → Prop} {s : Shared}
end
section
variable {X : Cx} {e e2 : Expr} {ta : TA} {p pos tpos kpos cpos : Pos} {elts : List Expr} {kk cn : Nat}
end
end U

end
section
/-! try with several clauses, each with a name -/
namespace U
open PySem PySem.Spec PyProof.Rows L2
noncomputable abbrev Hd := Value × Nat × (Addr → Value → Option Addr → TS)
noncomputable def wManyAs (K : Fg) (Wout : WX) (D : Ends) : List Hd → WX
  | [] => Wout
  | (c, i, ts) :: r => fun cls d σ H => ∃ b, PySem.W.exmOne K cls c = some b ∧ (b = true → ∀ a, H a = none → ts a cls d { nx := fun σ' H' => D.nx (σ'.set i none) H', rt := D.rt, bk := fun σ' H' => D.bk (σ'.set i none) H', ct := fun σ' H' => D.ct (σ'.set i none) H' } (σ.set i (some (.ref a))) H) ∧
    (b = false → wManyAs K Wout D r cls d σ H)
inductive HdsAs (X : Cx) : List ExceptHandler → List Hd → Prop
  | nil : HdsAs X [] []
  | cons {x n : Str} {c : Value} {i : Nat} {ts : Addr → Value → Option Addr → TS} {b₀ : Stmt} {suite : List Stmt} {np pos' : Pos} {hds : List ExceptHandler} {l : List Hd} (hN : X.N.Nodup) (hi : X.N[i]? = some n) (hln : X.env.kindOf n = some .local) (hc : Names X x c)
      (hsu : ∀ (a : Addr) (oe : Obj) (cls : Value) (d : Option Addr) (pn : List (Addr × Obj)), Zc cls d oe → (∃ vs, oe.data = .fields vs) → PSs (X.suite a ((a, oe) :: pn)) (b₀ :: suite) (ts a cls d)) (r : HdsAs X hds l) :
      HdsAs X (.ExceptHandler (some (.Name x np)) (some n) (b₀ :: suite) pos' :: hds) ((c, i, ts) :: l)
section
variable {X : Cx} {body : List Stmt} {h₀ : ExceptHandler} {hds : List ExceptHandler} {l : List Hd} {pos : Pos} {tb : WX → TS} {Wout : WX}
theorem ps_try_manyAs (hs : X.stack = X.env :: X.outer) (hf : X.env.frame = some X.env.locals) (tk : Takes X Wout)
    (hb : ∀ (W : WX) (pn : List (Addr × Obj)) (xe : Value → Shared → Prop), Takes (X.tr pn xe) W → PassesOwn (model X.prog X.w) X.A X.env xe → PSs (X.tr pn xe) body (tb W))
    (hh : HdsAs X (h₀ :: hds) l) : PS X (.Try body (h₀ :: hds) [] [] pos) (fun D σ H => tb (wManyAs X.K Wout D l) D σ H) := qt_of (by simp (disch := with_unfolding_all
  refine ⟨fun pins s σ H D I h => ?_⟩
  have ok := I.ok
  have hfr : X.A.frames = some (X.env :: X.outer) := by rw [ok.frames, hs]
  refine wpAny_Try_except ?_
  refine wpAny_mono ((hb (wManyAs X.K Wout D l) (X.pn ++ pins) (fun e s₁ => wpAny (model X.prog X.w) X.A (noteFrame e X.env) (fun _ s₂ => wpAny (model X.prog X.w) X.A (setFlight e none) (fun _ s₃ =>
    wpAny (model X.prog X.w) X.A (handleBy e X.env (h₀ :: hds)) (SP X pins D) X.xe s₃) X.xe s₂) X.xe s₁) (fun u s' xx => ?_) PassesOwn.looking).run [] s σ H D (I.toTry _) h) (fun f s1 hsp => ?_) (fun e s1 he => he)
  · -- the catch
    obtain ⟨a, B, sI, pins', σ', H', cls, d, rfl, J', nb, up, sky, na, os, ag, w⟩ := xx
    have J : Inv X pins σ' H' sI := J'.ofTry ok
    have sky' : Sky B (X.env :: X.outer) a (Zc cls d) X.env.locals s'.heap := by rw [← hs]; exact sky
    show wpAny (model X.prog X.w) X.A (noteFrame (.ref a) X.env) _ _ _
    refine Sky.land Zc.steady hfr hf sky' fun h3 fl3 up3 => ?_
    have J3 : Inv X pins σ' H' { s' with heap := h3 } := J.landed nb fl3.1 (up.trans up3) os ag
    obtain ⟨oe3, vs3, he3, hz3, hd3⟩ := fl3.there
    have notFr : ∀ {h : Heap} {o : Obj} {vs : Array Value}, h.FunFrames B (X.env :: X.outer) → h.get? a = some o → o.data = .fields vs → a ∉ L2.frs (X.env :: X.outer) := fun {h o vs} ff e dd hm => by
      obtain ⟨_, o', e', hnf⟩ := ff.mem hm
      rw [e] at e'; cases e'
      exact hnf _ dd
    have nfr := notFr fl3.2.2.1 he3 hd3
    have nL : a ≠ X.env.locals := fun z => nfr (List.mem_filterMap.mpr ⟨X.env, List.mem_cons_self, by rw [hf, z]⟩)
    have nF : a ∉ X.fs := fun hm => by
      obtain ⟨e, he, q⟩ := List.mem_filterMap.mp hm
      exact nfr (List.mem_filterMap.mpr ⟨e, List.mem_cons_of_mem _ he, q⟩)
    have S3 := J3.suite he3 hd3 na nL nF
    have go : ∀ {hds' : List ExceptHandler} {l' : List Hd}, HdsAs X hds' l' → wManyAs X.K Wout D l' cls d σ' H' →
        wpAny (model X.prog X.w) X.A (handleBy (.ref a) X.env hds') (SP X pins D) X.xe { s' with heap := h3 } := by
      intro hds' l' hk
      induction hk with
      | nil =>
        intro w
        refine wpAny_handleBy_nil ?_
        obtain ⟨k1, k2, k3, oe, vs, T, oT, ts', he, hz, hd, h1, hr⟩ := id fl3
        unfold PySem.passOn
        refine wpAny_bind (wpAny_field he hd h1 ?_)
        rw [if_neg (show ¬ ((Value.ref T == Value.none) = true) from by simp)]
        have fin : wpAny (model X.prog X.w) X.A (setFlight (.ref a) X.env.frame) (fun _ s4 => wpAny (model X.prog X.w) X.A (throw (.ref a) : Sem Flow) (SP X pins D) X.xe s4) X.xe { s' with heap := h3 } := by
          rw [hf]
          refine HandSPX.setFlight_upZ fl3 fun h4 hh4 up4 => wpAny_throw (tk _ _ ?_)
          exact ⟨a, B, sI, pins, σ', H', cls, d, rfl, J, nb, (up.trans up3).trans up4, .inr (.inr (by rw [hs]; exact hh4)), na, os, ag, w⟩
        first
          | exact wpAny_bind (wpAny_pure (wpAny_bind fin))
          | exact wpAny_bind fin
      | @cons x n c i ts b₀ suite np pos' hds2 l2 hN hi hln hc hsu r ih =>
        intro w
        have hloc : Loc X.env.scope n := .inl hln
        obtain ⟨b, hb1, hyes, hno⟩ := w
        refine wpAny_handleBy_cons (codeAny_handlers_test ?_) (by intro q; cases q)
        have LT : PySem.W.Looks (model X.prog X.w) h3 (typeOf (.ref a)) cls := fun A Q E s k q => wpAny_typeOf_ref (k _ _ he3) (by rw [hz3.1]; exact q)
        have LM := PySem.W.exm_one (M := model X.prog X.w) (J3.kIn) LT hb1
        have test : ∀ {Q : Value → Shared → Prop} {E : Value → Shared → Prop}, Q c { s' with heap := h3 } → wpAny (model X.prog X.w) (X.A.mark (some (.ref a))) (eval (.Name x np) X.env) Q E { s' with heap := h3 } := fun {Q E} q => by
          obtain ⟨hg, hdbg, hm | ⟨hm, hv, hnn⟩⟩ := hc
          · exact ld_glob (X := X.suite a ((a, oe3) :: (X.pn ++ pins))) S3 hg hm q hdbg
          · exact ld_blt (X := X.suite a ((a, oe3) :: (X.pn ++ pins))) S3 hg hm hv q hnn hdbg
        refine test (LM.here ?_)
        cases b with
        | true =>
          refine codeAny_handlers_suite_as ?_
          refine HandSPX.lands_againZ fl3 fun h4 fl4 up4 => ?_
          have J4 : Inv X pins σ' H' { s' with heap := h4 } := J.landed nb fl4.1 ((up.trans up3).trans up4) os ag
          obtain ⟨oe4, vs4, he4, hz4, hd4⟩ := fl4.there
          have S4 := J4.suite he4 hd4 na nL nF
          refine store_ok (X := X.suite a ((a, oe4) :: (X.pn ++ pins))) (v := .ref a) S4 hN hi hloc rfl (fun s5 S5 => ?_) (.inr hln)
          refine wpAny_mono ((hsu a oe4 cls d (X.pn ++ pins) hz4 ⟨_, hd4⟩).run [] s5 _ H' _ S5 (hyes rfl a na)) (fun f s6 hsp => ?_) (fun _ _ z => False.elim z)
          have end_ : ∀ {σ6 : L2.St} {H6 : Hp} {Q : Shared → Prop}, Inv (X.suite a ((a, oe4) :: (X.pn ++ pins))) [] σ6 H6 s6 → (∀ s7, Inv X pins (σ6.set i none) H6 s7 → Q s7) →
              wpAny (model X.prog X.w) X.A (do bindName X.env n .none; unbindBehindTheSuite X.env n pos') (fun _ s7 => Q s7) X.xe s6 := fun {σ6 H6 Q} S6 hq => gone_ok (S6.unsuite ok) hN hi hln hq
          cases f with
          | next =>
            obtain ⟨σ6, H6, S6, q6⟩ := hsp
            exact end_ S6 fun s7 J7 => ⟨_, _, J7, q6⟩
          | brk =>
            obtain ⟨σ6, H6, S6, q6⟩ := hsp
            exact end_ S6 fun s7 J7 => ⟨_, _, J7, q6⟩
          | cont =>
            obtain ⟨σ6, H6, S6, q6⟩ := hsp
            exact end_ S6 fun s7 J7 => ⟨_, _, J7, q6⟩
          | ret u =>
            obtain ⟨v6, σ6, H6, S6, r6, q6⟩ := hsp
            exact end_ S6 fun s7 J7 => ⟨_, _, _, J7, r6, q6⟩
        | false =>
          show wpAny _ X.A (handleBy (.ref a) X.env hds2) _ _ _
          exact ih (hno rfl)
    exact go hh w
  · cases f with
    | next =>
      obtain ⟨σ', H', J', q⟩ := hsp
      exact wpAny_execs_nil ⟨σ', H', J'.ofTry ok, q⟩
    | brk =>
      obtain ⟨σ', H', J', q⟩ := hsp
      exact ⟨σ', H', J'.ofTry ok, q⟩
    | cont =>
      obtain ⟨σ', H', J', q⟩ := hsp
      exact ⟨σ', H', J'.ofTry ok, q⟩
    | ret u =>
      obtain ⟨v, σ', H', J', r, q⟩ := hsp
      exact ⟨v, σ', H', J'.ofTry ok, r, q⟩
  ) only [↓qt_eq])
end
/-- the reading -/
noncomputable def tTryN (K : Fg) (tb : WX → TS) (l : List Hd) : TS := fun D σ H => tb (wManyAs K (fun _ _ _ _ => False) D l) D σ H
end U

end
section
/-! Dicts whose keys are tuples, nested ones too: by what they hold. -/
namespace U
open PySem PySem.Spec PyProof.Rows L2 Evl
noncomputable abbrev NK := NestedKey
mutual
/-- data as keys -/
noncomputable def toK : PyData → Option NK
  | .none => some .none
  | .int i => some (.num i)
  | .str x => some (.text x)
  | .tuple xs => (toKs xs).map .tup
  | _ => none
noncomputable def toKs : List PyData → Option (List NK)
  | [] => some []
  | x :: xs => (toK x).bind fun k => (toKs xs).map (k :: ·)
end
section
variable {X : Cx} {pins : List (Addr × Obj)} {σ : L2.St} {H : Hp} {s : Shared}
mutual
theorem nk_is (I : Inv X pins σ H s) : ∀ {x : PyData} {v : V} {u : Value} {k : NK}, Dp X.K H v x → RelV v u → toK x = some k → NestedIs s.heap k u
  | _, _, _, _, .non, r, e => by cases e; cases r; exact .none
  | _, _, _, _, .bl b, r, e => by cases e
  | _, _, _, _, .int i, r, e => by
    cases e
    obtain ⟨t, rfl⟩ := r
    exact .int i t
  | _, _, _, _, .str x, r, e => by
    cases e
    obtain ⟨t, rfl⟩ := r
    exact .text x t
  | _, _, _, _, .lst h t, r, e => by cases e
  | .tuple xs, _, _, _, .tup h t, r, e => by
    have e : (toKs xs).map NestedKey.tup = some _ := e
    obtain ⟨ks, hks, rfl⟩ := Option.map_eq_some_iff.mp e
    cases r
    obtain ⟨its, rv, ⟨o, h1, h2, n, h3⟩, _⟩ := I.tuple h
    exact .tup h1 h2 h3 (by rw [List.toList_toArray]; exact nk_all I t rv hks)
theorem nk_all (I : Inv X pins σ H s) : ∀ {xs : List PyData} {vs : List V} {us : List Value} {ks : List NK}, DpAll X.K H vs xs → Vals vs us → toKs xs = some ks → NestedAll s.heap ks us
  | _, _, _, _, .nil, r, e => by cases e; cases r; exact .nil
  | x :: xs, _, _, _, .cons h t, r, e => by
    have e : ((toK x).bind fun k => (toKs xs).map (k :: ·)) = some _ := e
    obtain ⟨k, hk, e⟩ := Option.bind_eq_some_iff.mp e
    obtain ⟨ks, hks, rfl⟩ := Option.map_eq_some_iff.mp e
    cases r with
    | cons a b => exact .cons (nk_is I h a hk) (nk_all I t b hks)
end
/-- the tuple at b is the key k -/
noncomputable def KeyIs (K : Fg) (H : Hp) (k : NK) (b : Addr) : Prop := ∃ x, Dp K H (.ref b) x ∧ toK x = some k ∧ k.depth ≤ 8
theorem KeyIs.nk {k : NK} {b : Addr} (I : Inv X pins σ H s) (h : KeyIs X.K H k b) : (nestedKind X.prog X.w).is s.heap k b := by
  obtain ⟨x, hd, hk, hl⟩ := h
  exact ⟨nk_is I hd rfl hk, hl⟩
end
noncomputable abbrev Ent := NK × Addr × V
inductive Es : List Ent → List (NK × Addr × Value) → Prop
  | nil : Es [] []
  | cons {k : NK} {b : Addr} {v : V} {u : Value} {es : List Ent} {xs : List (NK × Addr × Value)} : RelV v u → Es es xs → Es ((k, b, v) :: es) ((k, b, u) :: xs)
theorem Es.len : ∀ {es : List Ent} {xs : List (NK × Addr × Value)}, Es es xs → es.length = xs.length
  | _, _, .nil => rfl
  | _, _, .cons _ t => congrArg (· + 1) t.len
theorem Es.keys : ∀ {es : List Ent} {xs : List (NK × Addr × Value)}, Es es xs → es.map (·.1) = xs.map (·.1)
  | _, _, .nil => rfl
  | _, _, .cons _ t => by rw [List.map_cons, List.map_cons, t.keys]
theorem Es.snoc : ∀ {es : List Ent} {xs : List (NK × Addr × Value)} {k : NK} {b : Addr} {v : V} {u : Value}, Es es xs → RelV v u → Es (es ++ [(k, b, v)]) (xs ++ [(k, b, u)])
  | _, _, _, _, _, _, .nil, r => .cons r .nil
  | _, _, _, _, _, _, .cons a t, r => .cons a (t.snoc r)
noncomputable def findE (es : List Ent) (k : NK) : Option V := (es.find? fun e => decide (e.1 = k)).map (·.2.2)
noncomputable def putE (es : List Ent) (k : NK) (b : Addr) (v : V) : List Ent := if (findE es k).isSome then es.map (fun e => if e.1 = k then (e.1, e.2.1, v) else e) else es ++ [(k, b, v)]
theorem Es.find : ∀ {es : List Ent} {xs : List (NK × Addr × Value)} {k : NK}, Es es xs → (findE es k = none ∧ atKey xs k = none) ∨ ∃ v p, findE es k = some v ∧ atKey xs k = some p ∧ RelV v p.2
  | _, _, _, .nil => .inl ⟨rfl, rfl⟩
  | (k', b, v) :: es, (_, _, u) :: xs, k, .cons r t => by
    by_cases h : k' = k
    · exact .inr ⟨v, (b, u), by simp [findE, h], by simp [atKey, h], r⟩
    · have e1 : findE ((k', b, v) :: es) k = findE es k := by simp [findE, h]
      have e2 : atKey ((k', b, u) :: xs) k = atKey xs k := by simp [atKey, h]
      rw [e1, e2]
      exact t.find
theorem Es.mput {k : NK} {v : V} {u : Value} (r : RelV v u) : ∀ {es : List Ent} {xs : List (NK × Addr × Value)}, Es es xs → Es (es.map (fun e => if e.1 = k then (e.1, e.2.1, v) else e)) (xs.map (putAt k u))
  | _, _, .nil => .nil
  | (k', b, v') :: es, (_, _, u') :: xs, .cons a t => by
    rw [List.map_cons, List.map_cons, putAt]
    by_cases h : k' = k
    · rw [if_pos h, if_pos h]
      exact .cons r (t.mput r)
    · rw [if_neg h, if_neg h]
      exact .cons a (t.mput r)
theorem Es.put {k : NK} {b : Addr} {v : V} {u : Value} {es : List Ent} {xs : List (NK × Addr × Value)} (h : Es es xs) (r : RelV v u) : Es (putE es k b v) (storedH xs k b u) := by
  unfold putE storedH
  rcases h.find (k := k) with ⟨e1, e2⟩ | ⟨v', p, e1, e2, _⟩
  · rw [e1, e2]
    exact h.snoc r
  · rw [e1, e2]
    exact h.mput r
theorem putE_len {es : List Ent} {k : NK} {b : Addr} {v : V} : (putE es k b v).length ≤ es.length + 1 := by
  unfold putE
  split
  · rw [List.length_map]; omega
  · rw [List.length_append]; exact Nat.le_refl _
/-- a key that may stand in a dict -/
noncomputable def KGood (k : NK) : Prop := k.depth ≤ 8 ∧ ∃ ks, k = .tup ks
noncomputable def toKd (x : PyData) : NK := (toK x).getD .none
theorem toKd_good {x : PyData} (h : KGood (toKd x)) : toK x = some (toKd x) := by
  obtain ⟨_, ks, h⟩ := h
  unfold toKd at h ⊢
  cases e : toK x with
  | none => rw [e] at h; cases h
  | some k => rfl
/-- the tuple at b is the key k, if k is one -/
noncomputable def KeyW (K : Fg) (H : Hp) (k : NK) (b : Addr) : Prop := ∃ x, Dp K H (.ref b) x ∧ toKd x = k
theorem KeyW.is {K : Fg} {H : Hp} {k : NK} {b : Addr} (h : KeyW K H k b) (g : KGood k) : KeyIs K H k b := by
  obtain ⟨x, hd, rfl⟩ := h
  exact ⟨x, hd, toKd_good g, g.1⟩
theorem KeyIs.good {K : Fg} {H : Hp} {k : NK} {b : Addr} (h : KeyIs K H k b) : KGood k := qt_of (by simp (disch := with_unfolding_all
  obtain ⟨x, hd, hk, hl⟩ := h
  refine ⟨hl, ?_⟩
  cases hd with
  | lst a b => cases hk
  | tup a b =>
    obtain ⟨ks, _, e⟩ := Option.map_eq_some_iff.mp (show (toKs _).map NestedKey.tup = some k from hk)
    exact ⟨ks, e.symm⟩
  ) only [↓qt_eq])
/-- the dict at a holds es; ep its epoch -/
noncomputable def DctN (w : World) (h : Heap) (a : Addr) (ep : Nat) (es : List Ent) : Prop := es.length ≤ sizeLine ∧ (a == sysModules) = false ∧ ((es.map (·.1)).Nodup ∧ ∀ e ∈ es, KGood e.1) ∧
  ∃ o ent xs, h.get? a = some o ∧ o.ExactDict ∧ o.data = .dict ent ep ∧ Es es xs ∧ ent.toList = xs.map fun x => ⟨x.1.hash w, .ref x.2.1, x.2.2⟩
noncomputable def DctO (w : World) (a : Addr) (ep : Nat) (es : List Ent) : HO := .ext fun h => DctN w h a ep es
/-- the dict at a, its keys tuples that H holds -/
noncomputable def DctH (K : Fg) (w : World) (H : Hp) (a : Addr) (ep : Nat) (es : List Ent) : Prop := H a = some (DctO w a ep es) ∧ ∀ e ∈ es, KeyW K H e.1 e.2.1
section
variable {X : Cx} {pins : List (Addr × Obj)} {σ : L2.St} {H : Hp} {s : Shared} {a b : Addr} {ep : Nat} {es : List Ent} {k : NK}
theorem dct_ok {P : Program} {w : World} {h : Heap} (R : DctN w h a ep es) : ObjOk P w H h a (DctO w a ep es) := by
  obtain ⟨h1, h2, h3, o, ent, xs, ho, r⟩ := id R
  refine ⟨R, ⟨o, ho⟩, fun h1 h2 p q => ?_⟩
  obtain ⟨k1, k2, k3, o', ent', xs', ho', r'⟩ := p
  exact ⟨k1, k2, k3, o', ent', xs', q _ ho', r'⟩
theorem dct_at (I : Inv X pins σ H s) (hD : H a = some (DctO X.w a ep es)) : DctN X.w s.heap a ep es :=
  have ok : ObjOk X.prog X.w H s.heap a (DctO X.w a ep es) := I.hok a _ hD
  ok.1
theorem es_keys {P : NK → Addr → Prop} : ∀ {es : List Ent} {xs : List (NK × Addr × Value)}, Es es xs → (∀ e ∈ es, P e.1 e.2.1) → ∀ x ∈ xs, P x.1 x.2.1
  | _, _, .nil, _, x, hx => nomatch hx
  | _, _, .cons (k := k) (b := b) (v := v) (es := es) r t, hk, x, hx => by
    rcases List.mem_cons.mp hx with rfl | hx
    · exact hk _ (List.mem_cons_self ..)
    · exact es_keys t (fun e he => hk e (List.mem_cons_of_mem _ he)) x hx
theorem dct_h (I : Inv X pins σ H s) (hD : DctH X.K X.w H a ep es) : ∃ xs, Es es xs ∧ s.heap.DictOfH (nestedKind X.prog X.w) a xs ∧ (a == sysModules) = false ∧ xs.length ≤ sizeLine := qt_of (by simp (disch := with_unfolding_all
  obtain ⟨hD, hk⟩ := hD
  obtain ⟨h1, h2, h3, o, ent, xs, ho, hc, hd, he, hl⟩ := dct_at I hD
  refine ⟨xs, he, ⟨o, ent, ep, ho, hc, hd, hl, fun x hx => ?_, by rw [← he.keys]; exact h3.1⟩, h2, by rw [← he.len]; exact h1⟩
  exact (es_keys (P := fun k b => KeyIs X.K H k b) he (fun e m => (hk e m).is (h3.2 e m)) x hx).nk I
  ) only [↓qt_eq])
theorem dct_of (hg : ∀ e ∈ es, KGood e.1) {P : Program} {w : World} {h : Heap} {xs : List (NK × Addr × Value)} (he : Es es xs) (hm : h.DictOfH (nestedKind P w) a xs) (hd : (a == sysModules) = false) (hl : es.length ≤ sizeLine) : ∃ ep, DctN w h a ep es := by
  obtain ⟨o, ent, ep, ho, hc, hdat, e, his, hn⟩ := hm
  exact ⟨ep, hl, hd, ⟨by rw [he.keys]; exact hn, hg⟩, o, ent, xs, ho, hc, hdat, he, e⟩
/-! ### {}, d[k], d[k] = v, d.get(k, x) -/
noncomputable def tDct0 (w : World) : TE := fun _ H Q => ∀ p, H p = none → Q (.ref p) (upd H p (DctO w p 0 []))
theorem dct_new (h : Heap) (w : World) (hb : sysModules < h.objs.size) : DctN w (h.push { cls := .type "dict", data := .dict #[] }) h.objs.size 0 [] :=
  ⟨Nat.zero_le _, beq_eq_false_iff_ne.mpr (Ne.symm (Nat.ne_of_lt hb)), ⟨List.nodup_nil, fun _ h => nomatch h⟩, _, #[], [], Heap.get?_push_size _ rfl, ⟨rfl, rfl, rfl⟩, rfl, .nil, rfl⟩
theorem pe_dct0 {pos : Pos} : PE X (.Dict [] [] pos) (tDct0 X.w) := ⟨fun pins s σ H Q I h =>
  wpAny_Dict_empty ⟨.ref s.heap.objs.size, _, I.laid (a := s.heap.objs.size) (o := DctO X.w s.heap.objs.size 0 []) (t' := s.toks) (fun _ _ q => Heap.get?_push_of_some _ q) (Nat.le_refl _) (dct_ok (dct_new s.heap X.w I.big)), rfl, h _ (I.hok.fresh (Nat.le_refl _))⟩⟩
/-- d[k] -/
noncomputable def rDx (K : Fg) (w : World) : R2 := fun x y H Q => ∃ a b ep es k v, x = .ref a ∧ y = .ref b ∧ DctH K w H a ep es ∧ KeyIs K H k b ∧ findE es k = some v ∧ Q v H
theorem room_in1 {A : Around} (hu : A.units + 9 < cLine) : (nestedKind X.prog X.w).room A.in1 := by
  show A.in1.units + 8 < cLine
  have : A.in1.units = A.units + 1 := rfl
  omega
theorem ix_dct (hu : X.A.units + 9 < cLine) : IxR X (rDx X.K X.w) := by
  intro value slice pins s σ H x y v u Q I rx ry h hs
  obtain ⟨a, b, ep, es, k, r, rfl, rfl, hD, hk, hf, q⟩ := h
  obtain rfl : v = Value.ref a := rx
  obtain rfl : u = Value.ref b := ry
  obtain ⟨xs, he, hm, h1, h2⟩ := dct_h I hD
  rcases he.find (k := k) with ⟨e, _⟩ | ⟨v', p, e1, e2, e3⟩
  · rw [hf] at e; cases e
  · rw [hf] at e1
    cases e1
    exact tail_any hm.typeIs PySem.F.slot_dict_getitem.lookup (wpAny_getItem_heap (room_in1 hu) (hk.nk I) hm e2 ⟨r, H, I.tok _, e3, q⟩) hs
/-- d.get(k, x) -/
noncomputable def rDget (K : Fg) (w : World) : V → List V → Hp → VK → Prop := fun x ys H Q => ∃ a b ep es k d, x = .ref a ∧ ys = [.ref b, d] ∧ DctH K w H a ep es ∧ KeyIs K H k b ∧ Q ((findE es k).getD d) H
theorem mt_dct_get (hu : X.A.units + 9 < cLine) : MtR X "dict.get" (rDget X.K X.w) := by
  intro pins s σ H x ys v us Q I rx rs h
  obtain ⟨a, b, ep, es, k, d, rfl, rfl, hD, hk, q⟩ := h
  obtain rfl : v = Value.ref a := rx
  cases rs with
  | cons r1 rs =>
    cases rs with
    | cons r2 rs =>
      cases rs
      cases r1
      obtain ⟨xs, he, hm, h1, h2⟩ := dct_h I hD
      refine call_meetsIn PySem.F.slot_dict_get hm.typeIs PySem.F.entry_dict_get (PySem.F.args_dict_get_3 _ _ _) (meetsH_dict_get_default (nestedKind X.prog X.w) a b h1 _) ⟨room_in1 hu, k, xs, hk.nk I, hm, ?_⟩
      rcases he.find (k := k) with ⟨e1, e2⟩ | ⟨v', p, e1, e2, e3⟩
      · rw [e1] at q
        rw [e2]
        exact ⟨d, H, I.tok _, r2, q⟩
      · rw [e1] at q
        rw [e2]
        exact ⟨v', H, I.tok _, e3, q⟩
/-- d[k] = v -/
noncomputable def rDset (K : Fg) (w : World) : TSet := fun o i v H Q => ∃ a b ep es k, o = .ref a ∧ i = .ref b ∧ DctH K w H a ep es ∧ KeyIs K H k b ∧ es.length < sizeLine ∧ ∀ ep', Q (upd H a (DctO w a ep' (putE es k b v)))
theorem putE_good {v : V} (hg : ∀ e ∈ es, KGood e.1) (hk : KGood k) : ∀ e ∈ putE es k b v, KGood e.1 := fun e he => by
  unfold putE at he
  split at he
  · obtain ⟨e', h1, rfl⟩ := List.mem_map.mp he
    by_cases z : e'.1 = k
    · rw [if_pos z]; exact hg e' h1
    · rw [if_neg z]; exact hg e' h1
  · rcases List.mem_append.mp he with h | h
    · exact hg e h
    · rw [List.mem_singleton.mp h]; exact hk
theorem dct_put (hk : KGood k) {h' : Heap} {xs : List (NK × Addr × Value)} {t' : Nat} {v : V} {r : Value} (I : Inv X pins σ H s) (hD : H a = some (DctO X.w a ep es)) (he : Es es xs) (rv : RelV v r) (h1 : (a == sysModules) = false) (hl : es.length < sizeLine) (hm' : h'.DictOfH (nestedKind X.prog X.w) a (storedH xs k b r)) (hs : Heap.SameBut a s.heap h') : ∃ ep', Inv X pins σ (upd H a (DctO X.w a ep' (putE es k b v))) { s with heap := h', toks := t' } := qt_of (by simp (disch := with_unfolding_all
  have hz : (putE es k b v).length ≤ sizeLine := Nat.le_trans putE_len hl
  obtain ⟨ep', hN⟩ := dct_of (putE_good (dct_at I hD).2.2.1.2 hk) (he.put (k := k) (b := b) rv) hm' h1 hz
  have hq : ∃ q, h'.get? a = some q := let ⟨q, _, _, hq, _⟩ := hm'; ⟨q, hq⟩
  exact ⟨ep', d_write I (by rw [hD]; exact True.intro) hs hq (dct_ok hN)⟩
  ) only [↓qt_eq])
theorem set_dct (hu : X.A.units + 9 < cLine) : PSet X (rDset X.K X.w) := by
  intro pins s σ H o i v ov iv u Q I ro ri rv h
  obtain ⟨a, b, ep, es, k, rfl, rfl, hD, hk, hl, q⟩ := h
  obtain rfl : ov = Value.ref a := ro
  obtain rfl : iv = Value.ref b := ri
  obtain ⟨xs, he, hm, h1, h2⟩ := dct_h I hD
  refine wpAny_setItem_heap (hsz := h2) (room_in1 hu) (hk.nk I) hm fun h' hm' hs => ?_
  obtain ⟨ep', I'⟩ := dct_put hk.good (t' := s.toks + (nestedKind X.prog X.w).draws k) I hD.1 he rv h1 hl hm' hs
  exact ⟨_, I', q ep'⟩
end
end U

end
section
/-! Dicts with tuple keys: walked, and made by a comprehension. -/
namespace U
open PySem PySem.Spec PyProof.Rows L2 Evl
/-- the keys of a dict, in order -/
noncomputable def ItKd (w : World) (a : Addr) (ep : Nat) (es : List Ent) : It :=
  ⟨fun i H => H a = some (DctO w a ep es) ∧ i < es.length, fun i H x H' => H' = H ∧ ∃ k b v, es[i]? = some (k, b, v) ∧ x = .ref b, fun i H => H a = some (DctO w a ep es) ∧ es.length ≤ i⟩
theorem Es.at_ : ∀ {es : List Ent} {xs : List (NK × Addr × Value)}, Es es xs → ∀ {i : Nat} {k : NK} {b : Addr} {v : V}, es[i]? = some (k, b, v) → ∃ u, xs[i]? = some (k, b, u) ∧ RelV v u
  | _, _, .nil, i, _, _, _, h => by simp at h
  | _, _, .cons r t, 0, _, _, _, h => by
    simp only [List.getElem?_cons_zero, Option.some.injEq, Prod.mk.injEq] at h
    obtain ⟨rfl, rfl, rfl⟩ := h
    exact ⟨_, rfl, r⟩
  | _, _, .cons r t, i + 1, _, _, _, h => by
    obtain ⟨u, h1, h2⟩ := t.at_ (i := i) (by simpa using h)
    exact ⟨u, by simpa using h1, h2⟩
section
variable {P : Program} {w : World} {K : Fg} {tg : Expr} {d : Addr} {ep : Nat} {es : List Ent}
theorem turn_dct (it : Addr) : L2.Turn P w K tg (ItKd w d ep es) [it] it (fun i h => h.IsKeyIter it d i es.length ep) where
  mem := by simp
  obj := fun i h st b hb => by
    have e : b = it := by simpa using hb
    subst e
    obtain ⟨oi, e, c, dd⟩ := st
    exact ⟨oi, e, fun v z => by rw [dd] at z; cases z⟩
  keep := fun i h h' st k => st.at fun oi e => k it (by simp) oi e
  item := by
    intro X hP hw hK hc i pins s σ H E I hf st hg
    subst hP hw hK
    obtain ⟨hd, hi⟩ := hg
    obtain ⟨f0, f1, f2, f3, f4, f5⟩ := hf it (by simp)
    obtain ⟨n1, n2, n3, o, ent, xs, ho, hx, hdt, he, hl⟩ := dct_at I hd
    obtain ⟨⟨k, b, v⟩, hkv⟩ : ∃ p, es[i]? = some p := ⟨es[i], List.getElem?_eq_getElem hi⟩
    obtain ⟨u, hu, _⟩ := he.at_ hkv
    have hsz : ent.size = es.length := by rw [← Array.length_toList, hl, List.length_map, he.len]
    have hen : ent[i]? = some ⟨k.hash X.w, .ref b, u⟩ := by rw [← Array.getElem?_toList, hl, List.getElem?_map, hu] <;> rfl
    refine next_key_item st ho hdt hsz hen fun h' st' sb => ?_
    have I1 : Inv X pins σ H { s with heap := h' } := I.turned (t' := s.toks) (fun b ob hb e => (sb.2 b hb).trans e) f0 f1 f3 f4 f5
    obtain ⟨oi, e, c, dd⟩ := id st'
    exact ⟨_, rfl, go_of (s := { s with heap := h' }) e c dd (by decide) ⟨.ref b, H, I1, rfl, ⟨rfl, k, b, v, hkv, rfl⟩, st', fun b hb => (hf b hb).1⟩⟩
  done := by
    intro X hP hw hK hc i pins s σ H E I hf st hg
    subst hP hw hK
    obtain ⟨hd, hi⟩ := hg
    obtain ⟨f0, f1, f2, f3, f4, f5⟩ := hf it (by simp)
    obtain ⟨n1, n2, n3, o, ent, xs, ho, hx, hdt, he, hl⟩ := dct_at I hd
    have hsz : ent.size = es.length := by rw [← Array.length_toList, hl, List.length_map, he.len]
    exact next_key_end (I.ok.hd hc) st ho hdt hsz hi fun h' eb => ⟨rfl, I.turned (t' := s.toks) (fun b ob hb e => eb b ob hb e) f0 f1 f3 f4 f5⟩
  self := fun A i s Q E st h => by
    refine wpAny_pyIter_slot st.typeIs F.slot_dict_keyiterator_iter (wpAny_call_entry F.slot_dict_keyiterator_iter st.typeIs F.entry_dict_keyiterator_iter ?_ (F.args_dict_keyiterator_iter_1 _))
    show wpAny _ _ (ret (.ref it)) _ _ s
    exact wpAny_pure ⟨_, rfl, "dict_keyiterator", _, st.typeIs, F.slot_dict_keyiterator_next.lookup, h⟩
end
/-- for k in d -/
noncomputable def iDct (w : World) (td : TE) : TI := fun σ H R => td σ H fun x H1 => ∃ d ep es, x = .ref d ∧ H1 d = some (DctO w d ep es) ∧ R (ItKd w d ep es) H1
section
variable {X : Cx} {tg e : Expr} {td : TE}
theorem pi_dct (he : PE X e td) : PI X tg e (iDct X.w td) := qt_of (by simp (disch := with_unfolding_all
  refine ⟨fun pins s σ H R I h => ?_⟩
  refine thn (he.run pins s σ H _ I h) fun u s1 ⟨x, H1, I1, rx, d, ep, es, ex, hd, q⟩ => ?_
  subst ex
  obtain rfl : u = Value.ref d := rx
  obtain ⟨n1, n2, n3, o, ent, xs, ho, hx, hdt, hee, hl⟩ := dct_at I1 hd
  have hsz : ent.size = es.length := by rw [← Array.length_toList, hl, List.length_map, hee.len]
  refine iter_keys n2 ho hx hdt (pi_one (tk := s1.toks) I1 _ (turn_dct _) ⟨_, Heap.get?_push_size _ rfl, rfl, ?_⟩ q)
  rw [hsz] <;> rfl
  ) only [↓qt_eq])
end
section
variable {X : Cx} {pins : List (Addr × Obj)} {σ : L2.St} {H : Hp} {s : Shared}
theorem dct_dset {E : Value → Shared → Prop} {D b : Addr} {ep : Nat} {es : List Ent} {k : NK} {v : V} {u r : Value} {Q : Unit → Shared → Prop} (hu : X.A.units + 9 < cLine) (I : Inv X pins σ H s) (hD : DctH X.K X.w H D ep es) (hk : KeyIs X.K H k b) (hz : es.length < sizeLine)
    (ry : RelV (.ref b) u) (rv : RelV v r) (h : ∀ ep' s', Inv X pins σ (upd H D (DctO X.w D ep' (putE es k b v))) s' → Q () s') : wpAny (model X.prog X.w) X.A (dictSet D u r) Q E s := qt_of (by simp (disch := with_unfolding_all
  obtain rfl : u = Value.ref b := ry
  obtain ⟨xs, he, hm, h1, h2⟩ := dct_h I hD
  have hr : (nestedKind X.prog X.w).room X.A := by
    show X.A.units + 8 < cLine
    omega
  refine wpAny_dictSet_heap (hsz := h2) hr (hk.nk I) hm fun h' hm' hs => ?_
  obtain ⟨ep', I'⟩ := dct_put hk.good (t' := s.toks + (nestedKind X.prog X.w).draws k) I hD.1 he rv h1 hz hm' hs
  exact h ep' _ I'
  ) only [↓qt_eq])
end
section
variable {X : Cx}
/-- {k: v for target in iter if ..}, keys tuples: D the new dict (follows HandS.DictComp, whose keys are ints and texts) -/
noncomputable def tDcd (K : Fg) (w : World) (wi : TI) (g : TG) (tt : TT) (tk tv : TE) (vs : List Nat) : TE := fun σ H Q => wi σ H fun J H1 => ∀ D, H1 D = none → ∃ W : Nat → Nat → Hp → Prop, (∃ m, W 0 m (upd H1 D (DctO w D 0 []))) ∧ ∀ i m H, W i m H →
  (J.stop i H ∧ Q (.ref D) H) ∨ (J.go i H ∧ ∃ Nx : Hp → Prop, (∀ H', Nx H' → ∃ m', m' < m ∧ W (i + 1) m' H') ∧ ∀ x H', J.yld i H x H' → g x (wipe σ vs) H' fun σ2 H2 => wipe σ2 vs = wipe σ vs ∧ tt σ2 H2 fun b H3 =>
    if b = true then tk σ2 H3 fun y H4 => tv σ2 H4 fun z H5 => ∃ b ep es k, y = .ref b ∧ DctH K w H5 D ep es ∧ KeyIs K H5 k b ∧ es.length < sizeLine ∧ ∀ ep', Nx (upd H5 D (DctO w D ep' (putE es k b z))) else Nx H3)
theorem dcd_core {pins : List (Addr × Obj)} {s : Shared} {σ : St} {H : Hp} {Q : VK} {kx vx tg iter : Expr} {ifs : List Expr} {scope : Scope} {own : List (Str × Nat)} {pos pos' : Pos} {wi : TI} {g : TG} {tt : TT} {tk tv : TE} {use : Option (Value → Sem Unit)} {Qf : Value → Shared → Prop}
    (hu : X.A.units + 9 < cLine) (hc : X.calm = true) (hN : X.N.Nodup) (I : Inv X pins σ H s) (hi : PI X tg iter wi) (ok : BlkOk X.N X.env.scope scope own)
    (hg : ∀ (s : Shared) (H : Hp) (C : Addr) (cl : List (Str × Addr)) (fp : List Addr), PG (X.blk s H scope (compEnvC scope cl C X.env) fp) tg g) (ht : ∀ (s : Shared) (H : Hp) (C : Addr) (cl : List (Str × Addr)) (fp : List Addr), PTs (X.blk s H scope (compEnvC scope cl C X.env) fp) ifs tt)
    (hk : ∀ (s : Shared) (H : Hp) (C : Addr) (cl : List (Str × Addr)) (fp : List Addr), PE (X.blk s H scope (compEnvC scope cl C X.env) fp) kx tk)
    (he : ∀ (s : Shared) (H : Hp) (C : Addr) (cl : List (Str × Addr)) (fp : List Addr), PE (X.blk s H scope (compEnvC scope cl C X.env) fp) vx tv) (hs : ∀ x, foldedSetIterable iter X.env x = pure x)
    (h : tDcd X.K X.w wi g tt tk tv (own.map (·.2)) σ H Q)
    (hRR : ∀ D C s' m H', Inv X pins σ H' s' → Q (.ref D) H' → s'.heap.Ns C m → FpOk X pins H' C → compPost (model X.prog X.w) X.A X.xe use Qf (.ref D) C (.ok .next) s') :
    wpAny (model X.prog X.w) X.A (comprehension (.DictComp kx vx [⟨tg, iter, ifs, 0⟩] scope pos) scope X.env pos' newDict false (eval iter X.env) use) Qf X.xe s := qt_of (by simp (disch := with_unfolding_all
  have hfree : ∀ y ∈ scope.names, y.2 = .free → ∃ c, X.env.cells.lookup y.1 = some c := fun y hy e => by
    rcases ok.free y hy e with k | k
    · exact I.ok.has _ (.inl k)
    · exact I.ok.has _ (.inr k)
  refine wpAny_comprehension_free (use := use) rfl hs (closure_ok hfree) ok.kind (fun y hy e => by rw [ok.uniq y hy, e])
    (thn (hi.run pins s σ H _ I h) fun xv s1 hx => thn hx fun itv s2 h2 => ?_)
  obtain ⟨it, fp, tn, J, H2, e, I2, T, st2, f2, q⟩ := h2
  subst e
  refine wpAny_newObj_type (newEnv_comp ?_)
  generalize hD : s2.heap.objs.size = D
  have hDn : H2 D = none := I2.hok.fresh (Nat.le_of_eq hD)
  obtain ⟨W, ⟨m0, w0⟩, turn⟩ := q D hDn
  -- the new list
  generalize hs3 : ({ s2 with heap := s2.heap.push { cls := .type "dict", data := .dict #[] } } : Shared) = s3
  have I3 : Inv X pins σ (upd H2 D (DctO X.w D 0 [])) s3 := by
    rw [← hs3]
    refine I2.laid (t' := s2.toks) (fun b o e => Heap.get?_push_of_some _ e) (Nat.le_of_eq hD) ?_
    rw [← hD]
    exact dct_ok (dct_new s2.heap X.w I2.big)
  have h3 : s3.heap = s2.heap.push { cls := .type "dict", data := .dict #[] } := by rw [← hs3]
  have sz : ∀ b ∈ fp, b < s2.heap.objs.size := fun b hb => by
    obtain ⟨o, e, _⟩ := T.obj _ _ st2 b hb
    exact Heap.lt_size e
  have f3 : ∀ b ∈ fp, FpOk X pins (upd H2 D (DctO X.w D 0 [])) b ∧ b < s3.heap.objs.size := fun b hb => by
    have hlt := sz b hb
    refine ⟨⟨?_, (f2 b hb).2⟩, by rw [h3, Heap.size_push]; exact Nat.lt_succ_of_lt hlt⟩
    rw [upd_ne (by rw [← hD]; exact Nat.ne_of_lt hlt)]
    exact (f2 b hb).1
  have st3 : tn 0 s3.heap := T.keep _ _ _ st2 fun b _ o e => by rw [h3]; exact Heap.get?_push_of_some _ e
  have I4 := block_start I3 ok hN f3
  have pg := hg s3 (upd H2 D (DctO X.w D 0 [])) s3.heap.objs.size (cellsFrom (s3.heap.objs.size + 1) scope.names (cloFrom X.env.cells scope.names [])) fp
  have pt := ht s3 (upd H2 D (DctO X.w D 0 [])) s3.heap.objs.size (cellsFrom (s3.heap.objs.size + 1) scope.names (cloFrom X.env.cells scope.names [])) fp
  have pk := hk s3 (upd H2 D (DctO X.w D 0 [])) s3.heap.objs.size (cellsFrom (s3.heap.objs.size + 1) scope.names (cloFrom X.env.cells scope.names [])) fp
  have pe := he s3 (upd H2 D (DctO X.w D 0 [])) s3.heap.objs.size (cellsFrom (s3.heap.objs.size + 1) scope.names (cloFrom X.env.cells scope.names [])) fp
  show codeAny _ _ (.compStart (.DictComp kx vx [⟨tg, iter, ifs, 0⟩] scope pos) 0 (.ref it) (.ref D) (compEnvC scope (cellsFrom (s3.heap.objs.size + 1) scope.names (cloFrom X.env.cells scope.names [])) s3.heap.objs.size X.env)) (compPost (model X.prog X.w) X.A X.xe use Qf (.ref D) s3.heap.objs.size) { s3 with heap := pushCells (s3.heap.push { cls := .type "dict", data := .dict #[] }) scope.names }
  have nfp : ∀ b ∈ fp, (upd H2 D (DctO X.w D 0 [])) b = none := fun b hb => (f3 b hb).1.1
  generalize hce : compEnvC scope (cellsFrom (s3.heap.objs.size + 1) scope.names (cloFrom X.env.cells scope.names [])) s3.heap.objs.size X.env = ce at I4 pg pt pk pe ⊢
  have cL : ce.locals = s3.heap.objs.size := by subst hce; rfl
  generalize hH3 : upd H2 D (DctO X.w D 0 []) = H3 at I3 I4 pg pt pk pe w0 nfp f3
  generalize hs4 : ({ s3 with heap := pushCells (s3.heap.push { cls := .type "dict", data := .dict #[] }) scope.names } : Shared) = s4 at I4 ⊢
  have st4 : tn 0 s4.heap := T.keep _ _ _ st3 fun b _ o e => by rw [← hs4]; exact pushCells_keeps _ _ _ _ (Heap.get?_push_of_some _ e)
  have stat : ∀ {σ' : St} {H' : Hp} {s' : Shared}, Inv (X.blk s3 H3 scope ce fp) [] σ' H' s' → (∀ b ∈ fp, H' b = none) → ∀ b ∈ fp, FpOk (X.blk s3 H3 scope ce fp) [] H' b := fun {σ' H' s'} I' hn b hb =>
    ⟨hn b hb, (I'.ok.exf b hb).1, I'.ok.exfs b hb, .inl hb, fun x c e => (I'.ok.exf b hb).2 x c e, fun p hp => absurd (show p ∈ ([] : List (Addr × Obj)) ++ [] from hp) (by simp)⟩
  have loop : codeAny (model X.prog X.w) X.A (.compLoop (.DictComp kx vx [⟨tg, iter, ifs, 0⟩] scope pos) 0 (.ref it) (.ref D) ce) (compPost (model X.prog X.w) X.A X.xe use Qf (.ref D) s3.heap.objs.size) s4 := by
    refine compLoop_anyD (fun n s' => ∃ i H', Inv (X.blk s3 H3 scope ce fp) [] (wipe σ (own.map (·.2))) H' s' ∧ tn i s'.heap ∧ (∀ b ∈ fp, H' b = none) ∧ W i n H') ?_ m0 ⟨0, H3, I4, st4, nfp, w0⟩
    rintro n s5 ⟨i, H5, I5, st5, n5, w5⟩
    rcases turn i n H5 w5 with ⟨stop, qq⟩ | ⟨go, Nx, hNx, step⟩
    · have td := T.done (X.blk s3 H3 scope ce fp) rfl rfl rfl hc i [] s5 _ H5 (fun _ _ => False) I5 (stat I5 n5) st5 stop
      refine thnF td fun r s6 ⟨hr, I6⟩ => ?_
      subst hr
      -- back in the def's context
      have I7 : Inv X pins σ H5 s6 := I3.call' (ch := fp) I6.os I6.base I6.hok I6.bare fun b hb => ⟨(f3 b hb).1.2.2.2.1, (f3 b hb).1.2.1, (f3 b hb).1.2.2.2.2.1, (f3 b hb).1.2.2.2.2.2⟩
      have nC : H5 s3.heap.objs.size = none := by
        have z : H5 ce.locals = none := I6.free
        rw [cL] at z
        exact z
      obtain ⟨m, hn, _⟩ := I6.loc
      have hn : s6.heap.Ns ce.locals m := hn
      rw [cL] at hn
      exact hRR D s3.heap.objs.size s6 m H5 I7 qq hn (I3.fpOk (Nat.le_refl _) nC)
    · have ti := T.item (X.blk s3 H3 scope ce fp) rfl rfl rfl hc i [] s5 _ H5 (fun _ _ => False) I5 (stat I5 n5) st5 go
      refine thnF ti fun r s6 ⟨u, hr, h6⟩ => ?_
      subst hr
      refine thnF h6 fun _ s7 ⟨x, H7, I7, r7, y7, st7, n7⟩ => ?_
      have I7' := I7.pinned (stat I7 n7) (T.obj _ _ st7)
      refine thnF (pg.run _ s7 _ H7 x u _ I7' r7 (step x H7 y7)) fun _ s8 ⟨σ8, H8, I8, hw8, q8⟩ => ?_
      refine thnF (pt.run _ s8 σ8 H8 _ I8 q8) fun b s9 ⟨H9, I9, q9⟩ => ?_
      -- the turn's end
      have fin : ∀ {s' : Shared} {H' : Hp}, Inv (X.blk s3 H3 scope ce fp) ([] ++ pinsAt fp s7.heap) σ8 H' s' → Nx H' → ∃ m, m < n ∧ ∃ i H', Inv (X.blk s3 H3 scope ce fp) [] (wipe σ (own.map (·.2))) H' s' ∧ tn i s'.heap ∧ (∀ b ∈ fp, H' b = none) ∧ W i m H' := fun {s' H'} I' nx => by
        obtain ⟨m', hm, w'⟩ := hNx H' nx
        have pin' : ∀ b ∈ fp, ∀ o, s7.heap.get? b = some o → s'.heap.get? b = some o ∧ H' b = none := fun b hb o e =>
          let z := I'.pin (b, o) (List.mem_append_right _ (List.mem_append_right _ (mem_pinsAt hb e)))
          ⟨z.1, z.2.1⟩
        have hl : (wipe σ (own.map (·.2))).length = σ8.length := by rw [← hw8, wipe_length]
        refine ⟨m', hm, i + 1, H', (I'.unpinned (pins := [])).weak hl (fun j v e => ?_), T.keep _ _ _ st7 fun b hb o e => (pin' b hb o e).1, fun b hb => ?_, w'⟩
        · rw [← hw8] at e
          exact (wipe_some e).1
        · obtain ⟨o, e, _⟩ := T.obj _ _ st7 b hb
          exact (pin' b hb o e).2
      cases b with
      | false =>
        simp only [Bool.false_eq_true, if_false] at q9 ⊢
        exact fin I9 q9
      | true =>
        simp only [if_true] at q9 ⊢
        refine thnF (pk.run _ s9 σ8 H9 _ I9 q9) fun z s10 ⟨yk, H10, I10, r10, q10⟩ => ?_
        refine thnF (pe.run _ s10 σ8 H10 _ I10 q10) fun z2 s11 ⟨yv, H11, I11, r11, b, ep, es, k, ek, hD11, hk11, hz11, nx⟩ => ?_
        subst ek
        exact dct_dset (X := X.blk s3 H3 scope ce fp) hu I11 hD11 hk11 hz11 r10 r11 fun ep' s12 I12 => fin I12 (nx ep')
  exact codeAny_compStart_dict loop (T.self X.A 0 _ _ _ st4 loop)
  ) only [↓qt_eq])
/-- as a value -/
theorem pe_dcd {kx vx tg iter : Expr} {ifs : List Expr} {scope : Scope} {own : List (Str × Nat)} {pos : Pos} {wi : TI} {g : TG} {tt : TT} {tk tv : TE} (hu : X.A.units + 9 < cLine) (hc : X.calm = true) (hN : X.N.Nodup) (hi : PI X tg iter wi) (ok : BlkOk X.N X.env.scope scope own)
    (hg : ∀ (s : Shared) (H : Hp) (C : Addr) (cl : List (Str × Addr)) (fp : List Addr), PG (X.blk s H scope (compEnvC scope cl C X.env) fp) tg g) (ht : ∀ (s : Shared) (H : Hp) (C : Addr) (cl : List (Str × Addr)) (fp : List Addr), PTs (X.blk s H scope (compEnvC scope cl C X.env) fp) ifs tt)
    (hk : ∀ (s : Shared) (H : Hp) (C : Addr) (cl : List (Str × Addr)) (fp : List Addr), PE (X.blk s H scope (compEnvC scope cl C X.env) fp) kx tk)
    (he : ∀ (s : Shared) (H : Hp) (C : Addr) (cl : List (Str × Addr)) (fp : List Addr), PE (X.blk s H scope (compEnvC scope cl C X.env) fp) vx tv) (hs : ∀ x, foldedSetIterable iter X.env x = pure x := by intro _; rfl) :
    PE X (.DictComp kx vx [⟨tg, iter, ifs, 0⟩] scope pos) (tDcd X.K X.w wi g tt tk tv (own.map (·.2))) := by
  refine ⟨fun pins s σ H Q I h => ?_⟩
  rw [arm_eval_DictComp]
  refine dcd_core hu hc hN I hi ok hg ht hk he hs h fun D C s' m H' I' q hn f => ⟨m, hn, fun h'' sb => ?_⟩
  obtain ⟨f0, f1, f2, f3, f4, f5⟩ := f
  exact ⟨.ref D, H', I'.turned (t' := s'.toks) (fun b o hb e => (sb.2 b hb).trans e) f0 f1 f3 f4 f5, rfl, q⟩
end
end U

end
section
/-! sorted(xs) of data that compare, sorted(d) of a dict with such keys. -/
namespace U
open PySem PySem.Spec PyProof.Rows L2 Evl
/-- data in order -/
noncomputable def srtD (xs : List PyData) : List PyData := xs.mergeSort (PySem.W.dataLe false id)
noncomputable def SrtOk (xs : List PyData) : Prop := PySem.W.AllAlike xs ∧ PySem.W.Sortable xs ∧ ∀ x ∈ xs, x.depth ≤ 60
noncomputable abbrev srtP (ps : List (V × PyData)) : List (V × PyData) := ps.mergeSort (PySem.W.dataLe false (·.2))
theorem srt_map (ps : List (V × PyData)) : (ps.mergeSort (PySem.W.dataLe false (·.2))).map (·.2) = srtD (ps.map (·.2)) := by
  unfold srtD
  exact List.map_mergeSort fun a _ b _ => rfl
theorem dpa_zip {K : Fg} {H : Hp} : ∀ {vs : List V} {xs : List PyData}, DpAll K H vs xs → ∃ ps : List (V × PyData), ps.map (·.1) = vs ∧ ps.map (·.2) = xs ∧ ∀ p ∈ ps, Dp K H p.1 p.2
  | _, _, .nil => ⟨[], rfl, rfl, fun _ h => nomatch h⟩
  | _, _, .cons (v := v) (d := x) a b => by
    obtain ⟨ps, h1, h2, h3⟩ := dpa_zip b
    refine ⟨(v, x) :: ps, by rw [List.map_cons, h1], by rw [List.map_cons, h2], fun p hp => ?_⟩
    rcases List.mem_cons.mp hp with rfl | hp
    · exact a
    · exact h3 p hp
theorem zip_dpa {K : Fg} {H : Hp} : ∀ {ps : List (V × PyData)}, (∀ p ∈ ps, Dp K H p.1 p.2) → DpAll K H (ps.map (·.1)) (ps.map (·.2))
  | [], _ => .nil
  | p :: ps, h => .cons (h p (List.mem_cons_self ..)) (zip_dpa fun q hq => h q (List.mem_cons_of_mem _ hq))
theorem vals_each : ∀ {ps : List (V × PyData)} {us : List Value}, Vals (ps.map (·.1)) us → PySem.W.EachIs (fun u p => RelV p.1 u) us ps
  | [], _, h => by cases h; exact .nil
  | p :: ps, _, h => by
    cases h with
    | cons a b => exact .cons a (vals_each b)
theorem each_vals : ∀ {ps : List (V × PyData)} {us : List Value}, PySem.W.EachIs (fun u p => RelV p.1 u) us ps → Vals (ps.map (·.1)) us
  | _, _, .nil => .nil
  | _, _, .cons a b => .cons a (each_vals b)
section
variable {X : Cx} {pins : List (Addr × Obj)} {σ : L2.St} {H : Hp} {s : Shared}
theorem each_reads (I : Inv X pins σ H s) : ∀ {ps : List (V × PyData)} {us : List Value}, (∀ p ∈ ps, Dp X.K H p.1 p.2) → PySem.W.EachIs (fun u p => RelV p.1 u) us ps → PySem.W.EachIs (fun u p => ∃ as, Reads s.heap u p.2 as) us ps
  | _, _, _, .nil => .nil
  | p :: ps, _, h, .cons a b => .cons (Dp.reads I _ _ _ (h p (List.mem_cons_self ..)) a) (each_reads I (fun q hq => h q (List.mem_cons_of_mem _ hq)) b)
/-- sorted(xs) -/
noncomputable def rSrtL (K : Fg) : List V → Hp → VK → Prop := fun vs H Q => ∃ a ps, vs = [.ref a] ∧ SqL K H a (ps.map (·.1)) ∧ (∀ p ∈ ps, Dp K H p.1 p.2) ∧ SrtOk (ps.map (·.2)) ∧ ∀ l, H l = none → Q (.ref l) (upd H l (.lst ((srtP ps).map (·.1))))
theorem room2 {x : PyData} {A : Around} (hu : A.units + 64 < cLine) (h : x.depth ≤ 60) : A.units + 2 + x.depth < cLine := by omega
theorem cr_srtL (hu : X.A.units + 64 < cLine) : CallR X (.builtin "sorted") (rSrtL X.K) := by
  intro pins s σ H vs us Q I r h
  obtain ⟨a, ps, rfl, hs, hp, ⟨ok1, ok2, ok3⟩, q⟩ := h
  obtain ⟨its, rv, hl, hz⟩ := I.list hs
  rw [Vals.ref1 r]
  have ev := vals_each rv
  have hL : ps.length ≤ sizeLine := by rw [List.length_map] at hz; exact hz
  refine PySem.W.sorted_data (enc := (·.2)) hl.isList ev (each_reads I hp ev) ok1 ok2 hL (fun p hp' => room2 hu (ok3 _ (List.mem_map.mpr ⟨p, hp', rfl⟩))) fun out ho eo => ?_
  obtain ⟨ep, he'⟩ := PyProof.Rows.sortedAll_at s.heap its out.toArray
  have hps : ∀ p ∈ ps.mergeSort (PySem.W.dataLe false (·.2)), Dp X.K H p.1 p.2 := fun p h => hp p (List.mem_mergeSort.mp h)
  have hlen : ((ps.mergeSort (PySem.W.dataLe false (·.2))).map (·.1)).length ≤ sizeLine := by rw [List.length_map, List.length_mergeSort]; exact hL
  refine ⟨.ref _, upd H (s.heap.objs.size + 1) (.lst ((ps.mergeSort (PySem.W.dataLe false (·.2))).map (·.1))), I.laid (t' := s.toks) (fun _ _ => PyProof.Rows.sortedAll_old) (Nat.le_succ _) ⟨hlen, out, ep, each_vals eo, he'⟩, rfl, q _ (I.hok.fresh (Nat.le_succ _))⟩
/-- sorted(d) -/
noncomputable def rSrtD (K : Fg) (w : World) : List V → Hp → VK → Prop := fun vs H Q => ∃ a ep es ps, vs = [.ref a] ∧ H a = some (DctO w a ep es) ∧ ps.map (·.1) = (es.map fun e => V.ref e.2.1) ∧ (∀ p ∈ ps, Dp K H p.1 p.2) ∧ SrtOk (ps.map (·.2)) ∧ ∀ l, H l = none → Q (.ref l) (upd H l (.lst ((srtP ps).map (·.1))))
theorem es_vals : ∀ {es : List Ent} {xs : List (NK × Addr × Value)}, Es es xs → Vals (es.map fun e => .ref e.2.1) (xs.map fun x => .ref x.2.1)
  | _, _, .nil => .nil
  | _, _, .cons r t => .cons rfl (es_vals t)
theorem cr_srtD (hc : X.calm = true) (hu : X.A.units + 64 < cLine) : CallR X (.builtin "sorted") (rSrtD X.K X.w) := by
  intro pins s σ H vs us Q I r h
  obtain ⟨d, ep, es, ps, rfl, hD, e1, hp, ⟨ok1, ok2, ok3⟩, q⟩ := h
  rw [Vals.ref1 r]
  obtain ⟨n1, n2, n3, o, ent, ks, ho, hx, hdt, he, hl⟩ := dct_at I hD
  have hsz : ent.size = ks.length := by rw [← Array.length_toList, hl, List.length_map]
  refine PySem.Calls.call_function_entry kind_sorted plain_sorted entry_sorted (args_sorted1 _) ?_
  unfold Builtin.«sorted»
  refine wpAny_bind (m := checkCount "sorted" 1 1 _) (wpAny_pure ?_)
  refine wpAny_bind (PySem.W.kdu_collect (A := X.A.in1) (kdl_raw n2 hx hdt) (I.ok.hd hc) ho (by rw [hsz, ← he.len]; exact n1) fun h' tk acc hk hacc => ?_)
  have el : acc.toList = ks.map fun x => .ref x.2.1 := by
    apply List.ext_getElem?
    intro j
    have hla : acc.toList.length = ks.length := by rw [Array.length_toList, hacc.1]; exact hsz
    rcases Nat.lt_or_ge j ks.length with hj | hj
    · have h1 : acc.toList[j]? = some acc.toList[j] := List.getElem?_eq_getElem (by omega)
      obtain ⟨en, hen, hv⟩ := hacc.2 j _ (by rw [← Array.getElem?_toList]; exact h1)
      rw [← Array.getElem?_toList, hl, List.getElem?_map, List.getElem?_eq_getElem hj] at hen
      rw [h1, hv, List.getElem?_map, List.getElem?_eq_getElem hj]
      cases hen
      rfl
    · rw [List.getElem?_eq_none (by omega), List.getElem?_eq_none (by rw [List.length_map]; omega)]
  have rv : Vals (ps.map (·.1)) acc.toList := by
    rw [e1, el]
    exact es_vals he
  have ev := vals_each rv
  have hL : ps.length ≤ sizeLine := by
    have z := congrArg List.length e1
    rw [List.length_map, List.length_map] at z
    omega
  have hla : acc.toList.length = ps.length := by rw [← rv.length, List.length_map]
  refine wpAny_bind (wpAny_newList ?_ (by rw [hla]; exact hL))
  have hoL : (h'.push { cls := .type "list", data := .seq acc.toList.toArray }).get? h'.objs.size = some (seqObj "list" acc.toList.toArray 0) := Heap.get?_push_size _ rfl
  have kp : ∀ b o, s.heap.get? b = some o → (h'.push { cls := .type "list", data := .seq acc.toList.toArray }).get? b = some o := fun b o e => Heap.get?_push_of_some _ (hk b o e)
  have I1 : Inv X pins σ H { s with heap := h'.push { cls := .type "list", data := .seq acc.toList.toArray }, toks := tk } := I.kept (t' := tk) kp
  have er : PySem.W.EachIs (fun u p => ∃ as, Reads (h'.push { cls := .type "list", data := .seq acc.toList.toArray }) u p.2 as ∧ h'.objs.size ∉ as) acc.toList ps := (each_reads I hp ev).mono fun u p ⟨as, r⟩ => ⟨as, PyProof.Rows.Reads.keeps kp r, fun z => by
    obtain ⟨o, e⟩ := PyProof.On.reads_mem_get r _ z
    exact absurd (Heap.lt_size (hk _ _ e)) (Nat.lt_irrefl _)⟩
  refine wpAny_bind (wpAny_holding (PySem.W.list_sort_data (A := X.A.in1) (enc := (·.2)) hoL ev er ok1 ok2 hL (fun p hp' => ?_) fun out ho' eo => ?_))
  · have := ok3 _ (List.mem_map.mpr ⟨p, hp', rfl⟩)
    have e : X.A.in1.units = X.A.units + 1 := rfl
    omega
  · obtain ⟨ep', he'⟩ := PyProof.Rows.sortedHeap_at (vs := acc.toList) (out := out.toArray) hoL
    have hps : ∀ p ∈ ps.mergeSort (PySem.W.dataLe false (·.2)), Dp X.K H p.1 p.2 := fun p h => hp p (List.mem_mergeSort.mp h)
    have hlen : ((ps.mergeSort (PySem.W.dataLe false (·.2))).map (·.1)).length ≤ sizeLine := by rw [List.length_map, List.length_mergeSort]; exact hL
    have I0 : Inv X pins σ H { s with heap := h', toks := tk } := I.kept (t' := tk) hk
    have kk : ∀ b o, h'.get? b = some o → (sortedHeap (h'.push { cls := .type "list", data := .seq acc.toList.toArray }) h'.objs.size acc.toList out.toArray).get? b = some o := fun b o e => by
      have hb := Heap.lt_size e
      rw [PyProof.Rows.sortedHeap_old (Nat.ne_of_lt hb) (by rw [Heap.size_push]; exact Nat.lt_succ_of_lt hb)]
      exact Heap.get?_push_of_some _ e
    refine wpAny_pure ⟨_, rfl, ?_⟩
    refine ⟨.ref h'.objs.size, upd H h'.objs.size (.lst ((ps.mergeSort (PySem.W.dataLe false (·.2))).map (·.1))), I0.laid (t' := tk) kk (Nat.le_refl _) ⟨hlen, out, ep', each_vals eo, he'⟩, rfl, q _ (I0.hok.fresh (Nat.le_refl _))⟩
/-- d.m(e, ..) -/
noncomputable def tDM (w : World) (r : V → List V → Hp → VK → Prop) (to : TE) (t : TA) : TE := fun σ H Q => to σ H fun x H1 => (∃ a ep es, x = .ref a ∧ H1 a = some (DctO w a ep es)) ∧ t σ H1 fun xs H2 => r x xs H2 Q
theorem pe_dm {o e : Expr} {ess : List Expr} {to : TE} {t : TA} {name : Str} {apos cpos : Pos} {id : String} {r : V → List V → Hp → VK → Prop} (pa : PlainAttrs "dict") (slot : PySem.Slot "dict" name id) (hty : typeOf (.builtin id) = pure (.type "method_descriptor")) (hm : MtR X id r) (ho : PE X o to) (ha : PA X (e :: ess) t)
    (hbase : attributeBase o name X.env (eval o X.env) = eval o X.env := by rfl)
    (hfew : ((backTo cpos (starEach (e :: ess) X.env)).all (fun x => !x.1) && (backToKw cpos (keywordEach [] X.env)).all (fun x => x.1.isSome)
      && decide ((e :: ess).length + ([] : List Keyword).length + (if ([] : List Keyword).isEmpty then 0 else 1) < 30)) = true := by rfl)
    (hline : (apos.endLine == cpos.line) = true := by rfl) (hs : starEach (e :: ess) X.env = (false, eval e X.env) :: starEach ess X.env := by rfl) (hplain : (backTo cpos (starEach ess X.env)).any (·.1) = false := by rfl) :
    PE X (.Call (.Attribute o name apos) (e :: ess) [] cpos) (tDM X.w r to t) := by
  refine ⟨fun pins s σ H Q I h => ?_⟩
  refine wpAny_Call_method_late hbase hfew hline rfl (thn (ho.run pins s σ H _ I h) fun v s1 ⟨x, H1, I1, r1, ⟨a, ep, es, ex, hD⟩, q1⟩ => ?_)
  subst ex
  obtain rfl : v = Value.ref a := r1
  obtain ⟨n1, n2, n3, ob, ent, xs, hob, hx, hdt, he, hl⟩ := dct_at I1 hD
  refine ⟨"dict", id, pa, slot, hty, ⟨ob, hob, hx.1⟩, fun b q => by cases q; exact ⟨ob, hob, hx.2.1⟩, ?_⟩
  have hA := ha.run cpos pins s1 σ H1 _ I1 q1
  rw [hs] at hA ⊢
  refine Calls.callWith_builtin (by show (false || (backTo cpos (starEach ess X.env)).any (·.1)) = false; rw [hplain] <;> rfl) (Calls.evalArgs_plain ?_)
  exact thn hA fun us s2 ⟨vs, H2, I2, r2, q2⟩ => hm pins s2 σ H2 (.ref a) vs (.ref a) us Q I2 rfl r2 q2
end
end U

end
section
/-! x in a list or a tuple of data of any depth. -/
namespace U
open PySem PySem.Spec PyProof.Rows L2 Evl
theorem u65 {k : Nat} {A : Around} (r : L2.Room k A) : A.units + 65 < cLine := by have := r.un; omega
theorem u9 {n : Nat} (h : n + 64 < cLine) : n + 9 < cLine := by omega
section
variable {X : Cx}
noncomputable def rInS (K : Fg) (neg : Bool) : R2 := fun x y H Q => ∃ d c ds, Dp K H x d ∧ Dp K H y c ∧ (c = .list ds ∨ c = .tuple ds) ∧ SeqAt.shaped d = true ∧ SeqAt.shaped (.list ds) = true ∧ Q (.bl (if neg then !ds.any (fun z => PyData.eqv z d) else ds.any fun z => PyData.eqv z d)) H
theorem op_notInS (hu : X.A.units + 65 < cLine) : OpR X (compareOp .NotIn) (rInS X.K true) := by
  intro pins s σ H x y v u Q I rx ry h
  obtain ⟨d, c, ds, hd, he, ec, sd, se, q⟩ := h
  obtain ⟨as, r1⟩ := Dp.reads I d x v hd rx
  obtain ⟨bs, r2⟩ := Dp.reads I c y u he ry
  rcases ec with rfl | rfl
  · exact SeqAt.notIn_list_reads r2 r1 (SeqAt.canLay_of_shaped se) (SeqAt.canLay_of_shaped sd) (room_in_shaped sd hu) ⟨.bl _, H, I, rfl, q⟩
  · exact SeqAt.notIn_tuple_reads r2 r1 (SeqAt.canLay_of_shaped se) (SeqAt.canLay_of_shaped sd) (room_in_shaped sd hu) ⟨.bl _, H, I, rfl, q⟩
end
end U

end
section
/-! enumerate of a list or a tuple. -/
namespace U
open PySem PySem.W PyProof.Rows L2 Evl
section
variable {prog : Program} {w : World} {A : Around} {E : Value → Shared → Prop} {s : Shared}
end
end U

end
section
/-! list comprehensions of two and three clauses. -/
namespace U
open PySem PySem.Spec PyProof.Rows L2
/-- what a clause's rest does to the list at D -/
noncomputable abbrev TCl := Addr → St → Hp → (Hp → Prop) → Prop
noncomputable def tElt (te : TE) : TCl := fun D σ H Nx => te σ H fun y H' => ∃ acc, H' D = some (.lst acc) ∧ acc.length < sizeLine ∧ Nx (upd H' D (.lst (acc ++ [y])))
noncomputable def tClause (wi : TI) (g : TG) (tt : TT) (tc : TCl) (vs : List Nat) : TCl := fun D σ H Nx => wi σ H fun J H1 => ∃ W1 : Nat → Nat → Hp → Prop, (∃ m, W1 0 m H1) ∧ ∀ j k H, W1 j k H →
  (J.stop j H ∧ Nx H) ∨ (J.go j H ∧ ∃ Nx1 : Hp → Prop, (∀ H', Nx1 H' → ∃ k', k' < k ∧ W1 (j + 1) k' H') ∧ ∀ x H', J.yld j H x H' → g x (wipe σ vs) H' fun σ3 H5 => wipe σ3 vs = wipe σ vs ∧ tt σ3 H5 fun b H6 => if b = true then tc D σ3 H6 Nx1 else Nx1 H6)
noncomputable def tLcN (wi : TI) (g : TG) (tt : TT) (tc : TCl) (vs : List Nat) : TE := fun σ H Q => wi σ H fun J H1 => ∀ D, H1 D = none → ∃ W : Nat → Nat → Hp → Prop, (∃ m, W 0 m (upd H1 D (.lst []))) ∧ ∀ i m H, W i m H →
  (J.stop i H ∧ Q (.ref D) H) ∨ (J.go i H ∧ ∃ Nx : Hp → Prop, (∀ H', Nx H' → ∃ m', m' < m ∧ W (i + 1) m' H') ∧ ∀ x H', J.yld i H x H' → g x (wipe σ vs) H' fun σ2 H2 => wipe σ2 vs = wipe σ vs ∧ tt σ2 H2 fun b H3 =>
    if b = true then tc D σ2 H3 Nx else Nx H3)
noncomputable abbrev RunT := (Shared → Prop) → (Value → Shared → Prop) → Shared → Prop
noncomputable def RunE (M : Model) (A : Around) (env : Env) (D : Addr) (elt : Expr) : RunT := fun Post E s => wpAny M A (eval elt env) (fun x s4 => wpAny M A (call (.builtin "list.append") [.ref D, x]) (fun _ s5 => Post s5) E s4) E s
noncomputable def RunC (M : Model) (A : Around) (env : Env) (D : Addr) (c : Expr) (i : Nat) (iter : Expr) : RunT := fun Post E s =>
  wpAny M A (eval iter env) (fun x s4 => wpAny M A (pyIter x) (fun it1 s5 => codeAny M A (.compStart c i it1 (.ref D) env) (fun r s' => match r with | .ok _ => Post s' | .error _ => False) s5) E s4) E s
/-- the loop of clause i, whose body is run -/
noncomputable def LoopF (M : Model) (A : Around) (env : Env) (D : Addr) (c : Expr) (i : Nat) (tg : Expr) (ifs : List Expr) (run : RunT) : Prop :=
  ∀ (R : Result → Shared → Prop) (it : Value) (s : Shared) (I : Nat → Shared → Prop)
    (_ : ∀ n s, I n s → wpAny M A (pyNext it) (fun r s₁ => match r with
      | none => R (.ok .next) s₁
      | some v => wpAny M A (letOwnedTupleGo tg it v) (fun _ s₁' => wpAny M A (assign tg env v) (fun _ s₂ =>
          wpAny M A (forIn ifs true fun c r => if r = true then do let ok ← isTrue c env (eval c env); pure (ForInStep.yield ok) else pure (ForInStep.yield r)) (fun ok s₃ =>
            if ok = true then run (fun s₅ => ∃ m, m < n ∧ I m s₅) (notedBy M A env fun e s' => R (.error e) s') s₃
            else ∃ m, m < n ∧ I m s₃) (notedBy M A env fun e s' => R (.error e) s') s₂) (notedBy M A env fun e s' => R (.error e) s') s₁') (notedBy M A env fun e s' => R (.error e) s') s₁) (notedBy M A env fun e s' => R (.error e) s') s)
    (n : Nat), I n s → codeAny M A (.compLoop c i it (.ref D) env) R s
noncomputable def StartF (M : Model) (A : Around) (env : Env) (D : Addr) (c : Expr) (i : Nat) : Prop :=
  ∀ (R : Result → Shared → Prop) (it : Value) (s : Shared), codeAny M A (.compLoop c i it (.ref D) env) R s →
    wpAny M A (pyIter it) (fun it' s' => codeAny M A (.compLoop c i it' (.ref D) env) R s') (notedBy M A env fun x s' => R (.error x) s') s → codeAny M A (.compStart c i it (.ref D) env) R s
/-- a clause's rest keeps what its reading tells -/
noncomputable def InnerOk (X : Cx) (own : List Nat) (D : Addr) (tc : TCl) (run : RunT) : Prop :=
  ∀ (pins : List (Addr × Obj)) (s : Shared) (σ : St) (H : Hp) (Nx : Hp → Prop) (Post : Shared → Prop) (E : Value → Shared → Prop), Inv X pins σ H s → tc D σ H Nx →
    (∀ s' H' σ', Inv X pins σ' H' s' → σ.length = σ'.length → (∀ (j : Nat) v, j ∉ own → σ[j]? = some (some v) → σ'[j]? = some (some v)) → Nx H' → Post s') → run Post E s
section
variable {X : Cx} {own : List Nat} {D : Addr}
theorem inner_elt {elt : Expr} {te : TE} (hx : X.xe = fun _ _ => False) (he : PE X elt te) : InnerOk X [] D (tElt te) (RunE (model X.prog X.w) X.A X.env D elt) := fun pins s σ H Nx Post E I h k => by
  have r := he.run pins s σ H _ I h
  rw [hx] at r
  refine thnF r fun z s1 ⟨yv, H1, I1, r1, acc, hD, hz, nx⟩ => ?_
  exact app_ok I1 hD hz r1 fun s2 I2 => k s2 _ σ I2 rfl (fun _ _ _ e => e) nx
theorem inner_mid {c : Expr} {i : Nat} {tg iter : Expr} {ifs : List Expr} {wi : TI} {g : TG} {tt : TT} {tc : TCl} {vs : List Nat} {run : RunT} (hx : X.xe = fun _ _ => False) (hc : X.calm = true) (hv : ∀ i ∈ own, i ∈ vs)
    (hi : PI X tg iter wi) (hg : PG X tg g) (ht : PTs X ifs tt) (ih : InnerOk X own D tc run) (L : LoopF (model X.prog X.w) X.A X.env D c i tg ifs run) (S : StartF (model X.prog X.w) X.A X.env D c i) :
    InnerOk X vs D (tClause wi g tt tc vs) (RunC (model X.prog X.w) X.A X.env D c i iter) := fun pins s σ H Nx Post E I h k => by
  have r := hi.run pins s σ H _ I h
  rw [hx] at r
  refine thnF r fun xv s10 hx1 => ?_
  refine thnF hx1 fun itv s11 h11 => ?_
  obtain ⟨it1, fp1, tn1, J1, H11, e1, I11, T1, st11, f11, W1, ⟨m1, w1⟩, turn1⟩ := h11
  subst e1
  have stat1 : ∀ {H' : Hp}, (∀ b ∈ fp1, H' b = none) → ∀ b ∈ fp1, FpOk X pins H' b := fun hn b hb => ⟨hn b hb, (f11 b hb).2⟩
  have loop1 : codeAny (model X.prog X.w) X.A (.compLoop c i (.ref it1) (.ref D) X.env) (fun r s' => match r with | .ok _ => Post s' | .error _ => False) s11 := by
    refine L _ _ _ (fun k s' => ∃ j H', Inv X pins (wipe σ vs) H' s' ∧ tn1 j s'.heap ∧ (∀ b ∈ fp1, H' b = none) ∧ W1 j k H') ?_ m1 ⟨0, H11, I11.weak (wipe_length _ _) (fun j v e => (wipe_some e).1), st11, fun b hb => (f11 b hb).1, w1⟩
    rintro k1 s12 ⟨j, H12, I12, st12, n12, w12⟩
    rcases turn1 j k1 H12 w12 with ⟨stop1, nx1⟩ | ⟨go1, Nx1, hNx1, step1⟩
    · refine thnF (T1.done X rfl rfl rfl hc j _ s12 (wipe σ vs) H12 (fun _ _ => False) I12 (stat1 n12) st12 stop1) fun r s13 ⟨hr, I13⟩ => ?_
      subst hr
      refine k s13 H12 (wipe σ vs) I13 (wipe_length σ vs).symm (fun j v hj e => ?_) nx1
      rw [wipe_out hj]
      exact e
    · refine thnF (T1.item X rfl rfl rfl hc j _ s12 (wipe σ vs) H12 (fun _ _ => False) I12 (stat1 n12) st12 go1) fun r s13 ⟨u1, hr, h13⟩ => ?_
      subst hr
      refine thnF h13 fun _ s14 ⟨x1, H14, I14, r14, y14, st14, n14⟩ => ?_
      have I14' := I14.pinned (stat1 n14) (T1.obj _ _ st14)
      have rg := hg.run _ s14 (wipe σ vs) H14 x1 u1 _ I14' r14 (step1 x1 H14 y14)
      rw [hx] at rg
      refine thnF rg fun _ s15 ⟨σ15, H15, I15, hw15, q15⟩ => ?_
      have rt := ht.run _ s15 σ15 H15 _ I15 q15
      rw [hx] at rt
      refine thnF rt fun b1 s16 ⟨H16, I16, q16⟩ => ?_
      have fin1 : ∀ {s' : Shared} {H' : Hp} {σ' : St}, Inv X (pins ++ pinsAt fp1 s14.heap) σ' H' s' → σ15.length = σ'.length → (∀ (j : Nat) v, (wipe σ vs)[j]? = some (some v) → σ'[j]? = some (some v)) → Nx1 H' → ∃ m, m < k1 ∧ ∃ j H', Inv X pins (wipe σ vs) H' s' ∧ tn1 j s'.heap ∧ (∀ b ∈ fp1, H' b = none) ∧ W1 j m H' := fun {s' H' σ'} I' hl hk nx => by
        obtain ⟨m', hm, w'⟩ := hNx1 H' nx
        have pin' : ∀ b ∈ fp1, ∀ o, s14.heap.get? b = some o → s'.heap.get? b = some o ∧ H' b = none := fun b hb o e =>
          let z := I'.pin (b, o) (List.mem_append_right _ (List.mem_append_right _ (mem_pinsAt hb e)))
          ⟨z.1, z.2.1⟩
        refine ⟨m', hm, j + 1, H', I'.unpinned.weak (by rw [← hl, ← hw15, wipe_length]) hk, T1.keep _ _ _ st14 fun b hb o e => (pin' b hb o e).1, fun b hb => ?_, w'⟩
        obtain ⟨o, e, _⟩ := T1.obj _ _ st14 b hb
        exact (pin' b hb o e).2
      have k15 : ∀ (j : Nat) v, (wipe σ vs)[j]? = some (some v) → σ15[j]? = some (some v) := fun j v e => by rw [← hw15] at e; exact (wipe_some e).1
      cases b1 with
      | false =>
        simp only [Bool.false_eq_true, if_false] at q16 ⊢
        exact fin1 I16 rfl k15 q16
      | true =>
        simp only [if_true] at q16 ⊢
        exact ih _ s16 σ15 H16 Nx1 _ _ I16 q16 fun s' H' σ' I' hl hk nx => fin1 I' hl (fun j v e => hk j v (fun z => (wipe_some e).2 (hv j z)) (k15 j v e)) nx
  exact S _ _ _ loop1 (T1.self X.A 0 _ _ _ st11 loop1)
/-- what a comprehension of many clauses is made of -/
structure LcOk (X : Cx) (c elt tg iter : Expr) (ifs : List Expr) (rest : List Comprehension) (scope : Scope) (pos : Pos) (g : TG) (tt : TT) (tc : TCl) (ns vs : List Nat) : Prop where
  hc : c = .ListComp elt (⟨tg, iter, ifs, 0⟩ :: rest) scope pos
  hns : ∀ i ∈ ns, i ∈ vs
  ok : ∀ (s : Shared) (H : Hp) (C : Addr) (cl : List (Str × Addr)) (fp : List Addr) (D : Addr), ∃ run, InnerOk (X.blk s H scope (compEnvC scope cl C X.env) fp) ns D tc run ∧ LoopF (model X.prog X.w) X.A (compEnvC scope cl C X.env) D c 0 tg ifs run
theorem lcN_core {pins : List (Addr × Obj)} {s : Shared} {σ : St} {H : Hp} {Q : VK} {c elt tg iter : Expr} {ifs : List Expr} {rest : List Comprehension} {scope : Scope} {own : List (Str × Nat)} {pos pos' : Pos} {wi : TI} {g : TG} {tt : TT} {tc : TCl} {ns : List Nat} {use : Option (Value → Sem Unit)} {Qf : Value → Shared → Prop}
    (hc : X.calm = true) (hN : X.N.Nodup) (I : Inv X pins σ H s) (hi : PI X tg iter wi) (ok : BlkOk X.N X.env.scope scope own)
    (hg : ∀ (s : Shared) (H : Hp) (C : Addr) (cl : List (Str × Addr)) (fp : List Addr), PG (X.blk s H scope (compEnvC scope cl C X.env) fp) tg g) (ht : ∀ (s : Shared) (H : Hp) (C : Addr) (cl : List (Str × Addr)) (fp : List Addr), PTs (X.blk s H scope (compEnvC scope cl C X.env) fp) ifs tt)
    (L : LcOk X c elt tg iter ifs rest scope pos g tt tc ns (own.map (·.2))) (hs : ∀ x, foldedSetIterable iter X.env x = pure x)
    (h : tLcN wi g tt tc (own.map (·.2)) σ H Q)
    (hRR : ∀ D C s' m H', Inv X pins σ H' s' → Q (.ref D) H' → s'.heap.Ns C m → FpOk X pins H' C → compPost (model X.prog X.w) X.A X.xe use Qf (.ref D) C (.ok .next) s') :
    wpAny (model X.prog X.w) X.A (comprehension (.ListComp elt (⟨tg, iter, ifs, 0⟩ :: rest) scope pos) scope X.env pos' (newList []) false (eval iter X.env) use) Qf X.xe s := qt_of (by simp (disch := with_unfolding_all
  have hfree : ∀ y ∈ scope.names, y.2 = .free → ∃ c, X.env.cells.lookup y.1 = some c := fun y hy e => by
    rcases ok.free y hy e with k | k
    · exact I.ok.has _ (.inl k)
    · exact I.ok.has _ (.inr k)
  refine wpAny_comprehension_free (use := use) rfl hs (closure_ok hfree) ok.kind (fun y hy e => by rw [ok.uniq y hy, e])
    (thn (hi.run pins s σ H _ I h) fun xv s1 hx => thn hx fun itv s2 h2 => ?_)
  obtain ⟨it, fp, tn, J, H2, e, I2, T, st2, f2, q⟩ := h2
  subst e
  refine wpAny_newObj_type (newEnv_comp ?_) (by show 0 ≤ sizeLine; decide)
  generalize hD : s2.heap.objs.size = D
  have hDn : H2 D = none := I2.hok.fresh (Nat.le_of_eq hD)
  obtain ⟨W, ⟨m0, w0⟩, turn⟩ := q D hDn
  generalize hs3 : ({ s2 with heap := s2.heap.push { cls := .type "list", data := .seq ([] : List Value).toArray } } : Shared) = s3
  have I3 : Inv X pins σ (upd H2 D (.lst [])) s3 := by
    rw [← hs3]
    refine I2.laid (t' := s2.toks) (fun b o e => Heap.get?_push_of_some _ e) (Nat.le_of_eq hD) ⟨Nat.zero_le _, [], 0, .nil, ?_⟩
    rw [← hD]
    exact Heap.get?_push_size _ rfl
  have h3 : s3.heap = s2.heap.push { cls := .type "list", data := .seq ([] : List Value).toArray } := by rw [← hs3]
  have sz : ∀ b ∈ fp, b < s2.heap.objs.size := fun b hb => by
    obtain ⟨o, e, _⟩ := T.obj _ _ st2 b hb
    exact Heap.lt_size e
  have f3 : ∀ b ∈ fp, FpOk X pins (upd H2 D (.lst [])) b ∧ b < s3.heap.objs.size := fun b hb => by
    have hlt := sz b hb
    refine ⟨⟨?_, (f2 b hb).2⟩, by rw [h3, Heap.size_push]; exact Nat.lt_succ_of_lt hlt⟩
    rw [upd_ne (by rw [← hD]; exact Nat.ne_of_lt hlt)]
    exact (f2 b hb).1
  have st3 : tn 0 s3.heap := T.keep _ _ _ st2 fun b _ o e => by rw [h3]; exact Heap.get?_push_of_some _ e
  have I4 := block_start I3 ok hN f3
  have pg := hg s3 (upd H2 D (.lst [])) s3.heap.objs.size (cellsFrom (s3.heap.objs.size + 1) scope.names (cloFrom X.env.cells scope.names [])) fp
  have pt := ht s3 (upd H2 D (.lst [])) s3.heap.objs.size (cellsFrom (s3.heap.objs.size + 1) scope.names (cloFrom X.env.cells scope.names [])) fp
  obtain ⟨run, pe, LF⟩ := L.ok s3 (upd H2 D (.lst [])) s3.heap.objs.size (cellsFrom (s3.heap.objs.size + 1) scope.names (cloFrom X.env.cells scope.names [])) fp D
  rw [L.hc] at LF
  show codeAny _ _ (.compStart (.ListComp elt (⟨tg, iter, ifs, 0⟩ :: rest) scope pos) 0 (.ref it) (.ref D) (compEnvC scope (cellsFrom (s3.heap.objs.size + 1) scope.names (cloFrom X.env.cells scope.names [])) s3.heap.objs.size X.env)) (compPost (model X.prog X.w) X.A X.xe use Qf (.ref D) s3.heap.objs.size) { s3 with heap := pushCells (s3.heap.push { cls := .type "dict", data := .dict #[] }) scope.names }
  have nfp : ∀ b ∈ fp, (upd H2 D (.lst [])) b = none := fun b hb => (f3 b hb).1.1
  generalize hce : compEnvC scope (cellsFrom (s3.heap.objs.size + 1) scope.names (cloFrom X.env.cells scope.names [])) s3.heap.objs.size X.env = ce at I4 pg pt pe LF ⊢
  have cL : ce.locals = s3.heap.objs.size := by subst hce; rfl
  generalize hH3 : upd H2 D (.lst []) = H3 at I3 I4 pg pt pe w0 nfp f3
  generalize hs4 : ({ s3 with heap := pushCells (s3.heap.push { cls := .type "dict", data := .dict #[] }) scope.names } : Shared) = s4 at I4 ⊢
  have st4 : tn 0 s4.heap := T.keep _ _ _ st3 fun b _ o e => by rw [← hs4]; exact pushCells_keeps _ _ _ _ (Heap.get?_push_of_some _ e)
  have stat : ∀ {σ' : St} {H' : Hp} {s' : Shared}, Inv (X.blk s3 H3 scope ce fp) [] σ' H' s' → (∀ b ∈ fp, H' b = none) → ∀ b ∈ fp, FpOk (X.blk s3 H3 scope ce fp) [] H' b := fun {σ' H' s'} I' hn b hb =>
    ⟨hn b hb, (I'.ok.exf b hb).1, I'.ok.exfs b hb, .inl hb, fun x c e => (I'.ok.exf b hb).2 x c e, fun p hp => absurd (show p ∈ ([] : List (Addr × Obj)) ++ [] from hp) (by simp)⟩
  have loop : codeAny (model X.prog X.w) X.A (.compLoop (.ListComp elt (⟨tg, iter, ifs, 0⟩ :: rest) scope pos) 0 (.ref it) (.ref D) ce) (compPost (model X.prog X.w) X.A X.xe use Qf (.ref D) s3.heap.objs.size) s4 := by
    refine LF _ _ _ (fun n s' => ∃ i H', Inv (X.blk s3 H3 scope ce fp) [] (wipe σ (own.map (·.2))) H' s' ∧ tn i s'.heap ∧ (∀ b ∈ fp, H' b = none) ∧ W i n H') ?_ m0 ⟨0, H3, I4, st4, nfp, w0⟩
    rintro n s5 ⟨i, H5, I5, st5, n5, w5⟩
    rcases turn i n H5 w5 with ⟨stop, qq⟩ | ⟨go, Nx, hNx, step⟩
    · have td := T.done (X.blk s3 H3 scope ce fp) rfl rfl rfl hc i [] s5 _ H5 (fun _ _ => False) I5 (stat I5 n5) st5 stop
      refine thnF td fun r s6 ⟨hr, I6⟩ => ?_
      subst hr
      have I7 : Inv X pins σ H5 s6 := I3.call' (ch := fp) I6.os I6.base I6.hok I6.bare fun b hb => ⟨(f3 b hb).1.2.2.2.1, (f3 b hb).1.2.1, (f3 b hb).1.2.2.2.2.1, (f3 b hb).1.2.2.2.2.2⟩
      have nC : H5 s3.heap.objs.size = none := by
        have z : H5 ce.locals = none := I6.free
        rw [cL] at z
        exact z
      obtain ⟨m, hn, _⟩ := I6.loc
      have hn : s6.heap.Ns ce.locals m := hn
      rw [cL] at hn
      exact hRR D s3.heap.objs.size s6 m H5 I7 qq hn (I3.fpOk (Nat.le_refl _) nC)
    · have ti := T.item (X.blk s3 H3 scope ce fp) rfl rfl rfl hc i [] s5 _ H5 (fun _ _ => False) I5 (stat I5 n5) st5 go
      refine thnF ti fun r s6 ⟨u, hr, h6⟩ => ?_
      subst hr
      refine thnF h6 fun _ s7 ⟨x, H7, I7, r7, y7, st7, n7⟩ => ?_
      have I7' := I7.pinned (stat I7 n7) (T.obj _ _ st7)
      refine thnF (pg.run _ s7 _ H7 x u _ I7' r7 (step x H7 y7)) fun _ s8 ⟨σ8, H8, I8, hw8, q8⟩ => ?_
      refine thnF (pt.run _ s8 σ8 H8 _ I8 q8) fun b s9 ⟨H9, I9, q9⟩ => ?_
      have fin : ∀ {s' : Shared} {H' : Hp} {σ9 : St}, Inv (X.blk s3 H3 scope ce fp) ([] ++ pinsAt fp s7.heap) σ9 H' s' → σ8.length = σ9.length → (∀ (j : Nat) v, (wipe σ (own.map (·.2)))[j]? = some (some v) → σ9[j]? = some (some v)) → Nx H' → ∃ m, m < n ∧ ∃ i H', Inv (X.blk s3 H3 scope ce fp) [] (wipe σ (own.map (·.2))) H' s' ∧ tn i s'.heap ∧ (∀ b ∈ fp, H' b = none) ∧ W i m H' := fun {s' H' σ9} I' hl hk nx => by
        obtain ⟨m', hm, w'⟩ := hNx H' nx
        have pin' : ∀ b ∈ fp, ∀ o, s7.heap.get? b = some o → s'.heap.get? b = some o ∧ H' b = none := fun b hb o e =>
          let z := I'.pin (b, o) (List.mem_append_right _ (List.mem_append_right _ (mem_pinsAt hb e)))
          ⟨z.1, z.2.1⟩
        refine ⟨m', hm, i + 1, H', (I'.unpinned (pins := [])).weak (by rw [← hl, ← hw8, wipe_length]) hk, T.keep _ _ _ st7 fun b hb o e => (pin' b hb o e).1, fun b hb => ?_, w'⟩
        obtain ⟨o, e, _⟩ := T.obj _ _ st7 b hb
        exact (pin' b hb o e).2
      have k8 : ∀ (j : Nat) v, (wipe σ (own.map (·.2)))[j]? = some (some v) → σ8[j]? = some (some v) := fun j v e => by rw [← hw8] at e; exact (wipe_some e).1
      cases b with
      | false =>
        simp only [Bool.false_eq_true, if_false] at q9 ⊢
        exact fin I9 rfl k8 q9
      | true =>
        simp only [if_true] at q9 ⊢
        exact pe _ s9 σ8 H9 Nx _ _ I9 q9 fun s' H' σ' I' hl hk nx => fin I' hl (fun j v e => hk j v (fun z => (wipe_some e).2 (L.hns j z)) (k8 j v e)) nx
  exact codeAny_compStart_list loop (T.self X.A 0 _ _ _ st4 loop)
  ) only [↓qt_eq])
theorem pe_lcN {c elt tg iter : Expr} {ifs : List Expr} {rest : List Comprehension} {scope : Scope} {own : List (Str × Nat)} {pos : Pos} {wi : TI} {g : TG} {tt : TT} {tc : TCl} {ns : List Nat} (hc : X.calm = true) (hN : X.N.Nodup) (hi : PI X tg iter wi) (ok : BlkOk X.N X.env.scope scope own)
    (hg : ∀ (s : Shared) (H : Hp) (C : Addr) (cl : List (Str × Addr)) (fp : List Addr), PG (X.blk s H scope (compEnvC scope cl C X.env) fp) tg g) (ht : ∀ (s : Shared) (H : Hp) (C : Addr) (cl : List (Str × Addr)) (fp : List Addr), PTs (X.blk s H scope (compEnvC scope cl C X.env) fp) ifs tt)
    (L : LcOk X c elt tg iter ifs rest scope pos g tt tc ns (own.map (·.2))) (hs : ∀ x, foldedSetIterable iter X.env x = pure x := by intro _; rfl) :
    PE X (.ListComp elt (⟨tg, iter, ifs, 0⟩ :: rest) scope pos) (tLcN wi g tt tc (own.map (·.2))) := by
  refine ⟨fun pins s σ H Q I h => ?_⟩
  rw [eval_ListComp]
  refine lcN_core hc hN I hi ok hg ht L hs h fun D C s' m H' I' q hn f => ⟨m, hn, fun h'' sb => ?_⟩
  obtain ⟨f0, f1, f2, f3, f4, f5⟩ := f
  exact ⟨.ref D, H', I'.turned (t' := s'.toks) (fun b o hb e => (sb.2 b hb).trans e) f0 f1 f3 f4 f5, rfl, q⟩
end
section
variable {X : Cx}
end
/-! ### the clauses' own loops -/
noncomputable def MidF (c : Expr) (i : Nat) (t0 i0 : Expr) (ifs0 : List Expr) (i1 : Expr) : Prop := ∀ (it acc : Value) (env : Env), compTurn c i it acc env = (do
      standAt i0.pos
      match ← pyNext it with
      | none => pure (.done .next)
      | some v =>
        letOwnedTupleGo t0 it v
        assign t0 env v
        let mut ok := true
        for c in ifs0 do
          if ok then ok ← isTrue c env (eval c env)
        if ok then
          let x ← eval i1 env
          standAt i1.pos
          let x ← foldedSetIterable i1 env x
          let _ ← runOwn (.compStart c (i + 1) (← holding [x] (pyIter x)) acc env) env
        again (.compLoop c i it acc env))
noncomputable def LastF (c : Expr) (i : Nat) (t1 i1 : Expr) (ifs1 : List Expr) (elt : Expr) : Prop := ∀ (it acc : Value) (env : Env), compTurn c i it acc env = (do
      standAt i1.pos
      match ← pyNext it with
      | none => pure (.done .next)
      | some v =>
        letOwnedTupleGo t1 it v
        assign t1 env v
        let mut ok := true
        for c in ifs1 do
          if ok then ok ← isTrue c env (eval c env)
        if ok then
          (do let _ ← call (.builtin "list.append") [acc, ← eval elt env])
        again (.compLoop c i it acc env))
section
variable {prog : Program} {w : World} {A : Around} {env : Env} {D : Addr} {c elt t0 i0 i1 : Expr} {i : Nat} {ifs0 : List Expr}
theorem loop_mid {el : Expr} {gens : List Comprehension} {scope : Scope} {pos : Pos} (hcc : c = .ListComp el gens scope pos) (F : MidF c i t0 i0 ifs0 i1) (hs : ∀ env x, foldedSetIterable i1 env x = pure x := by intro _ _; rfl) : LoopF (model prog w) A env D c i t0 ifs0 (RunC (model prog w) A env D c (i + 1) i1) := fun R it s I turn n h => by
  subst hcc
  refine codeAny_loop rfl I (fun n s hI => ?_) n h
  show wpAny _ A ((compTurn (.ListComp el gens scope pos) i it (.ref D) env).onRaise (fun x => do noteFrame x env; theTreesLotGoes x)) _ _ s
  refine wpAny_noted ?_
  rw [F]
  refine wpAny_bind (wpAny_standAt (wpAny_bind (wpAny_mono (turn n s hI) (fun r s₁ h₁ => ?_) fun _ _ h' => h')))
  cases r with
  | none => exact wpAny_pure h₁
  | some v =>
    refine wpAny_bind (wpAny_mono h₁ (fun _ s₁' h₁' => ?_) fun _ _ h' => h')
    refine wpAny_bind (wpAny_mono h₁' (fun _ s₂ h₂ => wpAny_bind (wpAny_mono h₂ (fun ok s₃ h₃ => ?_) fun _ _ h' => h')) fun _ _ h' => h')
    cases ok with
    | false => exact wpAny_pure ⟨rfl, h₃⟩
    | true =>
      have h₃ : RunC (model prog w) A env D _ (i + 1) i1 _ _ s₃ := h₃
      unfold RunC at h₃
      refine wpAny_bind (wpAny_mono h₃ (fun x s₄ h₄ => ?_) fun _ _ h' => h')
      refine wpAny_bind (wpAny_standAt (wpAny_bind (wpAny_of_eq (hs env x) (wpAny_bind (wpAny_holding (wpAny_mono h₄ (fun it1 s₅ h₅ => ?_) fun _ _ h' => h'))))))
      refine wpAny_bind (wpAny_runOwn ?_)
      rw [Around.mark_none]
      refine codeAny_mono h₅ fun r s' hr => ?_
      cases r with
      | ok f =>
        first
          | exact wpAny_pure ⟨rfl, hr⟩
          | exact wpAny_bind (wpAny_pure (wpAny_pure ⟨rfl, hr⟩))
      | error e => exact hr.elim
theorem loop_last {el : Expr} {gens : List Comprehension} {scope : Scope} {pos : Pos} (hcc : c = .ListComp el gens scope pos) (F : LastF c i t0 i0 ifs0 elt) : LoopF (model prog w) A env D c i t0 ifs0 (RunE (model prog w) A env D elt) := fun R it s I turn n h => by
  subst hcc
  refine codeAny_loop rfl I (fun n s hI => ?_) n h
  show wpAny _ A ((compTurn (.ListComp el gens scope pos) i it (.ref D) env).onRaise (fun x => do noteFrame x env; theTreesLotGoes x)) _ _ s
  refine wpAny_noted ?_
  rw [F]
  refine wpAny_bind (wpAny_standAt (wpAny_bind (wpAny_mono (turn n s hI) (fun r s₁ h₁ => ?_) fun _ _ h' => h')))
  cases r with
  | none => exact wpAny_pure h₁
  | some v =>
    refine wpAny_bind (wpAny_mono h₁ (fun _ s₁' h₁' => ?_) fun _ _ h' => h')
    refine wpAny_bind (wpAny_mono h₁' (fun _ s₂ h₂ => wpAny_bind (wpAny_mono h₂ (fun ok s₃ h₃ => ?_) fun _ _ h' => h')) fun _ _ h' => h')
    cases ok with
    | false => exact wpAny_pure ⟨rfl, h₃⟩
    | true =>
      have h₃ : RunE (model prog w) A env D elt _ _ s₃ := h₃
      unfold RunE at h₃
      exact wpAny_bind (wpAny_bind (wpAny_mono h₃ (fun x s₄ h₄ => wpAny_bind (wpAny_mono h₄ (fun _ s₅ h₅ => wpAny_pure (wpAny_pure ⟨rfl, h₅⟩)) fun _ _ h' => h')) fun _ _ h' => h'))
end
section
variable {elt t0 i0 t1 i1 t2 i2 : Expr} {ifs0 ifs1 ifs2 : List Expr} {scope : Scope} {pos : Pos}
theorem mid2 : MidF (.ListComp elt [⟨t0, i0, ifs0, 0⟩, ⟨t1, i1, ifs1, 0⟩] scope pos) 0 t0 i0 ifs0 i1 := fun _ _ _ => by rfl
theorem last2 : LastF (.ListComp elt [⟨t0, i0, ifs0, 0⟩, ⟨t1, i1, ifs1, 0⟩] scope pos) 1 t1 i1 ifs1 elt := fun _ _ _ => by rfl
theorem mid30 : MidF (.ListComp elt [⟨t0, i0, ifs0, 0⟩, ⟨t1, i1, ifs1, 0⟩, ⟨t2, i2, ifs2, 0⟩] scope pos) 0 t0 i0 ifs0 i1 := fun _ _ _ => by rfl
theorem mid31 : MidF (.ListComp elt [⟨t0, i0, ifs0, 0⟩, ⟨t1, i1, ifs1, 0⟩, ⟨t2, i2, ifs2, 0⟩] scope pos) 1 t1 i1 ifs1 i2 := fun _ _ _ => by rfl
theorem last3 : LastF (.ListComp elt [⟨t0, i0, ifs0, 0⟩, ⟨t1, i1, ifs1, 0⟩, ⟨t2, i2, ifs2, 0⟩] scope pos) 2 t2 i2 ifs2 elt := fun _ _ _ => by rfl
variable {prog : Program} {w : World} {A : Around} {env : Env} {D : Addr}
theorem start21 : StartF (model prog w) A env D (.ListComp elt [⟨t0, i0, ifs0, 0⟩, ⟨t1, i1, ifs1, 0⟩] scope pos) 1 := fun R it s h0 h => compStart1_ok h0 h
theorem start31 : StartF (model prog w) A env D (.ListComp elt [⟨t0, i0, ifs0, 0⟩, ⟨t1, i1, ifs1, 0⟩, ⟨t2, i2, ifs2, 0⟩] scope pos) 1 := fun R it s h0 h => by
  refine codeAny_of_tree ?_
  show wpAny _ _ ((compStart (.ListComp elt [⟨t0, i0, ifs0, 0⟩, ⟨t1, i1, ifs1, 0⟩, ⟨t2, i2, ifs2, 0⟩] scope pos) 1 it (.ref D) env).onRaise (fun x => do noteFrame x env; standAt theWindowsPlace)) _ _ s
  refine wpAny_notedAt ?_
  unfold compStart
  show wpAny _ _ (ask >>= _) _ _ s
  refine wpAny_bind (wpAny_askSetting (wpAny_ite ?_))
  split
  · first
      | exact wpAny_bind (wpAny_pure (wpAny_pure (And.intro rfl h0)))
      | exact wpAny_pure (And.intro rfl h0)
  · first
      | exact wpAny_bind (wpAny_rule (wpAny_bind (wpAny_standAt (wpAny_bind (wpAny_mono h (fun it' s' h' => wpAny_pure (And.intro rfl h')) fun _ _ x => x)))))
      | (refine wpAny_bind (wpAny_rule ?_); show wpAny _ _ (standAt i1.pos >>= _) _ _ s; exact wpAny_bind (wpAny_standAt (wpAny_bind (wpAny_mono h (fun it' s' h' => wpAny_pure (And.intro rfl h')) fun _ _ x => x))))
theorem start32 : StartF (model prog w) A env D (.ListComp elt [⟨t0, i0, ifs0, 0⟩, ⟨t1, i1, ifs1, 0⟩, ⟨t2, i2, ifs2, 0⟩] scope pos) 2 := fun R it s h0 h => by
  refine codeAny_of_tree ?_
  show wpAny _ _ ((compStart (.ListComp elt [⟨t0, i0, ifs0, 0⟩, ⟨t1, i1, ifs1, 0⟩, ⟨t2, i2, ifs2, 0⟩] scope pos) 2 it (.ref D) env).onRaise (fun x => do noteFrame x env; standAt theWindowsPlace)) _ _ s
  refine wpAny_notedAt ?_
  unfold compStart
  show wpAny _ _ (ask >>= _) _ _ s
  refine wpAny_bind (wpAny_askSetting (wpAny_ite ?_))
  split
  · first
      | exact wpAny_bind (wpAny_pure (wpAny_pure (And.intro rfl h0)))
      | exact wpAny_pure (And.intro rfl h0)
  · first
      | exact wpAny_bind (wpAny_rule (wpAny_bind (wpAny_standAt (wpAny_bind (wpAny_mono h (fun it' s' h' => wpAny_pure (And.intro rfl h')) fun _ _ x => x)))))
      | (refine wpAny_bind (wpAny_rule ?_); show wpAny _ _ (standAt i2.pos >>= _) _ _ s; exact wpAny_bind (wpAny_standAt (wpAny_bind (wpAny_mono h (fun it' s' h' => wpAny_pure (And.intro rfl h')) fun _ _ x => x))))
end
/-! ### the rules for use -/
section
variable {X : Cx} {elt tg iter tg1 iter1 tg2 iter2 : Expr} {ifs ifs1 ifs2 : List Expr} {scope : Scope} {own : List (Str × Nat)} {pos : Pos} {wi wi1 wi2 : TI} {g g1 g2 : TG} {tt tt1 tt2 : TT} {te : TE} {vs1 vs2 : List Nat}
theorem lcB_ok (hc : X.calm = true) (hv : vs1.all (fun i => (own.map (·.2)).contains i) = true)
    (hi1 : ∀ (s : Shared) (H : Hp) (C : Addr) (cl : List (Str × Addr)) (fp : List Addr), PI (X.blk s H scope (compEnvC scope cl C X.env) fp) tg1 iter1 wi1)
    (hg1 : ∀ (s : Shared) (H : Hp) (C : Addr) (cl : List (Str × Addr)) (fp : List Addr), PG (X.blk s H scope (compEnvC scope cl C X.env) fp) tg1 g1) (ht1 : ∀ (s : Shared) (H : Hp) (C : Addr) (cl : List (Str × Addr)) (fp : List Addr), PTs (X.blk s H scope (compEnvC scope cl C X.env) fp) ifs1 tt1)
    (he : ∀ (s : Shared) (H : Hp) (C : Addr) (cl : List (Str × Addr)) (fp : List Addr), PE (X.blk s H scope (compEnvC scope cl C X.env) fp) elt te) (hs1 : ∀ env x, foldedSetIterable iter1 env x = pure x := by intro _ _; rfl) :
    LcOk X (.ListComp elt [⟨tg, iter, ifs, 0⟩, ⟨tg1, iter1, ifs1, 0⟩] scope pos) elt tg iter ifs [⟨tg1, iter1, ifs1, 0⟩] scope pos g tt (tClause wi1 g1 tt1 (tElt te) vs1) vs1 (own.map (·.2)) :=
  ⟨rfl, fun i hi => by simpa using List.all_eq_true.mp hv i hi, fun s H C cl fp D => ⟨_, inner_mid rfl hc (by simp) (hi1 s H C cl fp) (hg1 s H C cl fp) (ht1 s H C cl fp) (inner_elt rfl (he s H C cl fp)) (loop_last rfl last2) start21, loop_mid rfl mid2 hs1⟩⟩
theorem lcC_ok (hc : X.calm = true) (hv : vs1.all (fun i => (own.map (·.2)).contains i) = true) (hv2 : vs2.all (fun i => vs1.contains i) = true)
    (hi1 : ∀ (s : Shared) (H : Hp) (C : Addr) (cl : List (Str × Addr)) (fp : List Addr), PI (X.blk s H scope (compEnvC scope cl C X.env) fp) tg1 iter1 wi1)
    (hg1 : ∀ (s : Shared) (H : Hp) (C : Addr) (cl : List (Str × Addr)) (fp : List Addr), PG (X.blk s H scope (compEnvC scope cl C X.env) fp) tg1 g1) (ht1 : ∀ (s : Shared) (H : Hp) (C : Addr) (cl : List (Str × Addr)) (fp : List Addr), PTs (X.blk s H scope (compEnvC scope cl C X.env) fp) ifs1 tt1)
    (hi2 : ∀ (s : Shared) (H : Hp) (C : Addr) (cl : List (Str × Addr)) (fp : List Addr), PI (X.blk s H scope (compEnvC scope cl C X.env) fp) tg2 iter2 wi2)
    (hg2 : ∀ (s : Shared) (H : Hp) (C : Addr) (cl : List (Str × Addr)) (fp : List Addr), PG (X.blk s H scope (compEnvC scope cl C X.env) fp) tg2 g2) (ht2 : ∀ (s : Shared) (H : Hp) (C : Addr) (cl : List (Str × Addr)) (fp : List Addr), PTs (X.blk s H scope (compEnvC scope cl C X.env) fp) ifs2 tt2)
    (he : ∀ (s : Shared) (H : Hp) (C : Addr) (cl : List (Str × Addr)) (fp : List Addr), PE (X.blk s H scope (compEnvC scope cl C X.env) fp) elt te) (hs1 : ∀ env x, foldedSetIterable iter1 env x = pure x := by intro _ _; rfl) (hs2 : ∀ env x, foldedSetIterable iter2 env x = pure x := by intro _ _; rfl) :
    LcOk X (.ListComp elt [⟨tg, iter, ifs, 0⟩, ⟨tg1, iter1, ifs1, 0⟩, ⟨tg2, iter2, ifs2, 0⟩] scope pos) elt tg iter ifs [⟨tg1, iter1, ifs1, 0⟩, ⟨tg2, iter2, ifs2, 0⟩] scope pos g tt (tClause wi1 g1 tt1 (tClause wi2 g2 tt2 (tElt te) vs2) vs1) vs1 (own.map (·.2)) :=
  ⟨rfl, fun i hi => by simpa using List.all_eq_true.mp hv i hi, fun s H C cl fp D => ⟨_, inner_mid rfl hc (fun i hi => by simpa using List.all_eq_true.mp hv2 i hi) (hi1 s H C cl fp) (hg1 s H C cl fp) (ht1 s H C cl fp) (inner_mid rfl hc (by simp) (hi2 s H C cl fp) (hg2 s H C cl fp) (ht2 s H C cl fp) (inner_elt rfl (he s H C cl fp)) (loop_last rfl last3) start32) (loop_mid rfl mid31 hs2) start31, loop_mid rfl mid30 hs1⟩⟩
end
end U

end
section
/-! first, *rest = a list or a tuple. -/
namespace U
open PySem PySem.W PyProof.Rows L2 Evl
noncomputable def gStarE (K : Fg) (t : TGs) : TG := fun v σ H Q => ∃ k p x ys, v = .ref p ∧ SqV K k H p (x :: ys) ∧ ys.length ≤ 10000 ∧ ∀ l, H l = none → t [x, .ref l] σ (upd H l (.lst ys)) Q
section
variable {prog : Program} {w : World} {A : Around} {E : Value → Shared → Prop} {s : Shared}
theorem star_T {l : Addr} {items : Array Value} {Q : List Value → Shared → Prop} (hh : A.handled = none) (hl : IsTup s.heap l items) (h0 : 1 ≤ items.size) (hz : items.size ≤ 16384)
    (h : ∀ h' tk, Heap.ExtBut s.heap.objs.size s.heap h' → wpAny (model prog w) A (newList (items.toList.drop 1) >>= fun d => pure (items.toList.take 1 ++ [d])) Q E { s with heap := h', toks := tk }) : wpAny (model prog w) A (unpackItems (.ref l) 2 (some 1)) Q E s := qt_of (by simp (disch := with_unfolding_all
  have hlt : l ≠ s.heap.objs.size := by obtain ⟨o, ho, _⟩ := hl; exact Nat.ne_of_lt (Heap.lt_size ho)
  unfold unpackItems
  refine wpAny_bind ?_
  unfold notIterableAtAll
  refine wpAny_bind (wpAny_specialOf hl.typeIs slot_tuple_iter.lookup ?_)
  refine wpAny_pure ?_
  simp only [Bool.false_eq_true, if_false]
  refine wpAny_bind (wpAny_holding (iter_tuple hl ?_))
  refine wpAny_bind (wpAny_holding (draw_tuple hlt 1 0 _ _ ⟨_, Heap.get?_push_size _ rfl, rfl, rfl⟩ (hl.push _) (by omega) fun h₁ hit₁ hs₁ => ?_))
  have hl₁ : IsTup h₁ l items := (hl.push _).extBut hs₁.extBut hlt
  rw [Nat.zero_add] at hit₁
  obtain ⟨oi, hoi, _⟩ := id hit₁
  obtain ⟨ol, hol, _⟩ := id hl₁
  rw [List.drop_zero]
  have hfl : (items.toList.take 1).length = 1 := by rw [List.length_take, Array.length_toList]; omega
  rw [if_neg (show ¬ ((items.toList.take 1).length < 1) by rw [hfl]; omega)]
  refine wpAny_bind (wpAny_holding (kun_collect (s := { s with heap := h₁ }) (T := "tuple_iterator") (.inr (.inr (.inr rfl))) (Walks.tuple (A := A.in1) hh s.heap.objs.size l hlt items) (fun j u st => st.1.typeIs) (k := 1) (by omega) ⟨hit₁, hl₁⟩ (Heap.lt_size hoi) (Heap.lt_size hol) (fun h₂ tk hk => ?_) (by rw [sizeLine_eq]; omega)))
  show wpAny _ _ (if (items.toList.drop 1).length < 2 - 1 - 1 then _ else _) _ _ _
  rw [if_neg (by omega)]
  show wpAny _ _ (newList ((items.toList.drop 1).take ((items.toList.drop 1).length - 0)) >>= fun d => pure (items.toList.take 1 ++ [d] ++ (items.toList.drop 1).drop ((items.toList.drop 1).length - 0))) _ _ _
  rw [Nat.sub_zero, List.take_length, List.drop_length, ]
  have he : Heap.ExtBut s.heap.objs.size s.heap h₂ := fun b o hb e => hk b o hb (hs₁.extBut b o hb (Heap.get?_push_of_some _ e))
  have hh2 := h h₂ tk he
  have e : (fun d => (pure (items.toList.take 1 ++ [d] ++ []) : Sem (List Value))) = fun d => pure (items.toList.take 1 ++ [d]) := by funext d; rw [List.append_nil]
  rw [e]
  exact hh2
  ) only [↓qt_eq])
theorem star_L {l : Addr} {items : Array Value} {Q : List Value → Shared → Prop} (hh : A.handled = none) (hl : s.heap.IsList l items) (h0 : 1 ≤ items.size) (hz : items.size ≤ 16384)
    (h : ∀ h' tk, Heap.ExtBut s.heap.objs.size s.heap h' → wpAny (model prog w) A (newList (items.toList.drop 1) >>= fun d => pure (items.toList.take 1 ++ [d])) Q E { s with heap := h', toks := tk }) : wpAny (model prog w) A (unpackItems (.ref l) 2 (some 1)) Q E s := qt_of (by simp (disch := with_unfolding_all
  have hlt : l ≠ s.heap.objs.size := by obtain ⟨o, ho, _⟩ := hl; exact Nat.ne_of_lt (Heap.lt_size ho)
  unfold unpackItems
  refine wpAny_bind ?_
  unfold notIterableAtAll
  refine wpAny_bind (wpAny_specialOf hl.typeIs slot_list_iter.lookup ?_)
  refine wpAny_pure ?_
  simp only [Bool.false_eq_true, if_false]
  refine wpAny_bind (wpAny_holding (wpAny_pyIter_list hl ?_))
  refine wpAny_bind (wpAny_holding (kun_draw hlt 1 0 _ _ ⟨_, Heap.get?_push_size _ rfl, rfl, rfl⟩ (hl.push _) (by omega) fun h₁ hit₁ hs₁ => ?_))
  have hl₁ : h₁.IsList l items := (hl.push _).extBut hs₁.extBut hlt
  rw [Nat.zero_add] at hit₁
  obtain ⟨oi, hoi, _⟩ := id hit₁
  obtain ⟨ol, hol, _⟩ := id hl₁
  rw [List.drop_zero]
  have hfl : (items.toList.take 1).length = 1 := by rw [List.length_take, Array.length_toList]; omega
  rw [if_neg (show ¬ ((items.toList.take 1).length < 1) by rw [hfl]; omega)]
  refine wpAny_bind (wpAny_holding (kun_collect (s := { s with heap := h₁ }) (T := "list_iterator") (.inr (.inr (.inl rfl))) (Walks.list (A := A.in1) hh s.heap.objs.size l hlt items) (fun j u st => st.1.typeIs) (k := 1) (by omega) ⟨hit₁, hl₁⟩ (Heap.lt_size hoi) (Heap.lt_size hol) (fun h₂ tk hk => ?_) (by rw [sizeLine_eq]; omega)))
  show wpAny _ _ (if (items.toList.drop 1).length < 2 - 1 - 1 then _ else _) _ _ _
  rw [if_neg (by omega)]
  show wpAny _ _ (newList ((items.toList.drop 1).take ((items.toList.drop 1).length - 0)) >>= fun d => pure (items.toList.take 1 ++ [d] ++ (items.toList.drop 1).drop ((items.toList.drop 1).length - 0))) _ _ _
  rw [Nat.sub_zero, List.take_length, List.drop_length, ]
  have he : Heap.ExtBut s.heap.objs.size s.heap h₂ := fun b o hb e => hk b o hb (hs₁.extBut b o hb (Heap.get?_push_of_some _ e))
  have hh2 := h h₂ tk he
  have e : (fun d => (pure (items.toList.take 1 ++ [d] ++ []) : Sem (List Value))) = fun d => pure (items.toList.take 1 ++ [d]) := by funext d; rw [List.append_nil]
  rw [e]
  exact hh2
  ) only [↓qt_eq])
theorem star_K {k : Kd} {l : Addr} {items : Array Value} {Q : List Value → Shared → Prop} (hh : A.handled = none) (hl : SqK k s.heap l items) (h0 : 1 ≤ items.size) (hz : items.size ≤ 16384)
    (h : ∀ h' tk, Heap.ExtBut s.heap.objs.size s.heap h' → wpAny (model prog w) A (newList (items.toList.drop 1) >>= fun d => pure (items.toList.take 1 ++ [d])) Q E { s with heap := h', toks := tk }) : wpAny (model prog w) A (unpackItems (.ref l) 2 (some 1)) Q E s := by
  cases k with
  | L => exact star_L hh hl h0 hz h
  | T => exact star_T hh hl h0 hz h
end
theorem pg_starE {X : Cx} {a b : Expr} {p pos : Pos} {k : Nat} {t : TGs} (hc : X.calm = true) (h : PGs X [a, b] t)
    (hn : (assignEach [a, .Starred b p] X.env).length = 2 := by rfl) (hst : (assignEach [a, .Starred b p] X.env).findIdx? (·.1) = some 1 := by rfl)
    (hm : (assignEach [a, .Starred b p] X.env).map (·.2) = (assignEach [a, b] X.env).map (·.2) := by rfl) : PG X (.Tuple [a, .Starred b p] k pos) (gStarE X.K t) := by
  refine ⟨fun pins s σ H v u Q I r hw => ?_⟩
  obtain ⟨kd, q, x, ys, e1, hq, hl, hw⟩ := hw
  subst e1
  cases r
  obtain ⟨its, rv, ht, hz⟩ := hq.inv I
  cases rv with
  | @cons _ w _ us rw' ru =>
    have hus : us.length = ys.length := ru.length.symm
    rw [assign_Tuple]
    refine wpAny_bind (wpAny_standAt ?_)
    unfold unpack
    rw [hn, hst, hm]
    refine wpAny_bind (wpAny_holding (star_K (I.ok.hd hc) ht (by simp) (by simp; omega) fun h' tk he => ?_))
    have e1 : (w :: us).toArray.toList.drop 1 = us := by simp
    have e2 : (w :: us).toArray.toList.take 1 = [w] := by simp
    rw [e1, e2]
    have I1 : Inv X pins σ H { s with heap := h', toks := tk } := I.kept (t' := tk) fun b o e => he b o (Nat.ne_of_lt (Heap.lt_size e)) e
    refine wpAny_bind (wpAny_newList ?_ (by rw [sizeLine_eq]; omega))
    refine wpAny_pure ?_
    have I2 := I1.lnew (t' := tk) ru (Nat.le_trans hl (by decide))
    exact h.run pins _ σ _ [x, .ref _] _ Q I2 (.cons rw' (.cons rfl .nil)) (hw _ I1.fresh)
/-! ### a call with keywords that may raise -/
noncomputable def tCallNS (n m : Nat) (sp : Sp) (gV : List V → List V → List V) (E : St → XK) (t tk : TA) : TE := fun σ H Q => t σ H fun vs H1 => tk σ H1 fun zs H2 => vs.length = n ∧ zs.length = m ∧ sp (gV vs zs) H2 Q (E σ)
section
variable {X : Cx} {CX : CXT} {k n : Nat} {f : Addr} {fd : FuncData} {ps ks : List Str} {sp : Sp} {E : St → XK} {x : Str} {p pos : Pos} {e : Expr} {es : List Expr} {kws : List Keyword} {t tk : TA} {g : List Value → List Value → List Value} {gV : List V → List V → List V}
theorem run_fnNS {pins : List (Addr × Obj)} {σ : St} {H : Hp} {s : Shared} {Q : VK} {us ws : List Value} {vs zs : List V} (F : FnOk X.prog X.w X.K X.mg X.base CX k f fd ps sp) (hr : Room k X.A) (hb : KBn X.K fd ps n ks g gV) (hx : PassesAt CX X σ (E σ))
    (I : Inv X pins σ H s) (r : Vals vs us) (rz : Vals zs ws) (l1 : vs.length = n) (l2 : zs.length = ks.length) (h : sp (gV vs zs) H Q (E σ)) : wpAny (model X.prog X.w) X.A (call (.ref f) us (ks.zip ws)) (EP X pins σ Q) X.xe s := qt_of (by simp (disch := with_unfolding_all
  have r2 := hb.rel r rz
  refine wpAny_call (codeAny_mono (F.run X.A X.stack s H ⟨us, ks.zip ws⟩ (g us ws) (gV vs zs) Q (E σ) hr I.env0 (hb.to s us ws I.kIn (r.length.symm.trans l1) (rz.length.symm.trans l2)) r2 h) fun r s' hq => ?_)
  cases r with
  | error e => exact hx pins H s e s' I hq
  | ok fl =>
    cases fl with
    | ret u => exact I.after hq
    | next => exact False.elim hq
    | brk => exact False.elim hq
    | cont => exact False.elim hq
  ) only [↓qt_eq])
theorem pe_callNS (F : FnOk X.prog X.w X.K X.mg X.base CX k f fd ps sp) (hr : Room k X.A) (hg : Gl X x) (hm : X.mg x = some (.ref f)) (hk : PySem.W.keepIn X.K (.ref f) = true) (hb : KBn X.K fd ps n ks g gV) (hx : ∀ σ, PassesAt CX X σ (E σ))
    (ha : PA X (e :: es) t) (hkw : PK X kws tk) (hall : (backToKw pos (keywordEach kws X.env)).all (·.1.isSome) = true := by rfl) (hks : (backToKw pos (keywordEach kws X.env)).filterMap (·.1) = ks := by rfl)
    (hdb : (x == ("__debug__" : Str)) = false := by decide) (he : starEach (e :: es) X.env = (false, eval e X.env) :: starEach es X.env := by rfl)
    (hpl : ((backTo pos (starEach (e :: es) X.env)).any (·.1) || (backToKw pos (keywordEach kws X.env)).any (·.1.isNone)) = false := by rfl) :
    PE X (.Call (.Name x p) (e :: es) kws pos) (tCallNS n ks.length sp gV E t tk) := by
  refine ⟨fun pins s σ H Q I h => ?_⟩
  refine wpAny_Call_Name_kw (ld_glob I hg hm ?_ hdb)
  refine PySem.W.callWith_KW (h₀ := X.base) I.ok.mod.kin hk hall (thn (ha.run pos pins s σ H _ I h) fun us s1 ⟨vs, H1, I1, r, q⟩ => ?_) hpl he
  refine thn (hkw.run pos pins s1 σ H1 _ I1 q) fun ws s2 ⟨zs, H2, I2, rz, l1, l2, q2⟩ => ⟨I2.kIn, ?_⟩
  rw [hks]
  exact run_fnNS F hr hb (hx σ) I2 r rz l1 l2 q2
end
end U

end
section
namespace U
open PySem PyProof.Rows L2 Evl
section
variable {X : Cx}
end
end U

end
section
/-! isinstance of a caught exception of an own class that has a dict. -/
namespace U
open PySem PyProof.Rows L2 Evl
end U

end
section
namespace U
open PySem PyProof.Rows L2 Evl
section
variable {X : Cx}
end
end U

end
section
namespace U
open PySem PyProof.Rows L2 Evl
section
variable {X : Cx} {pos : Pos}
end
end U

end
section
namespace U
open PySem PyProof.Rows L2 Evl
local macro_rules | `(tactic| walk_at "ev1a") => do
  let a ← ("ev_ixDisp ev_fst ev_snd ev_add ev_sub ev_mul ev_fdiv ev_mod ev_pow ev_lt ev_le ev_gt ev_ge ev_eqI ev_neI ev_neg ev_subB ev_isNo ev_noNo ev_not et_test et_B et_not ev_abs ev_max ev_min ev_intB ev_gcd ev_frac ev_fadd ev_sign ev_cmpF".splitOn " ").mapM fun (n : String) => `(tacticSeq| with_reducible apply $(Lean.mkIdent n.toName):ident)
  let b := a.toArray
  `(tactic| first $[| $b:tacticSeq]*)
local macro_rules | `(tactic| walk_at "ev1b") => do
  let a ← ("ev_like ev_tup ev_lst ea_cons eo_some ev_order".splitOn " ").mapM fun (n : String) => `(tacticSeq| with_reducible apply $(Lean.mkIdent n.toName):ident)
  let b := a.toArray
  `(tactic| first $[| $b:tacticSeq]*)
local macro_rules | `(tactic| walk_at "ev1") => `(tactic| first
  | exact ev_int | exact ev_bl | exact ev_str | exact ev_non | exact ev_var rfl | exact ea_nil | exact eo_none
  | walk_at "ev1a"
  | with_reducible apply ev_pull rfl
  | walk_at "ev1b"
  | exact ev_part rfl | exact ev_far rfl | exact ev_farPart rfl
  | (with_reducible show List.length _ ≤ 16000000; (simp; done)) | (with_reducible show (0 : Int) < _; decide) | (with_reducible show (_ : Int) < 1000000000000; decide) | (with_reducible show CPow _ _; (unfold CPow; decide)) | (with_reducible show CNz _ _; (unfold CNz; decide))
  | with_reducible apply sg_ret | with_reducible apply sg_asg | with_reducible apply sg_next)
local macro_rules | `(tactic| walk_at "ln") => `(tactic| first | walk_at "ev1" | with_reducible apply sg_seq)
section

/-! ### part -/
theorem fdiv_neg2 (a g : Int) : a.fdiv (-g) = (-a).fdiv g := by
  have h := Int.neg_fdiv_neg (-a) g
  rw [Int.neg_neg] at h
  exact h
theorem gI_neg (a b : Int) : gI (-a) (-b) = gI a b := by unfold gI gN; rw [Int.natAbs_neg, Int.natAbs_neg]
noncomputable def partR (a b : Int) : Except Xw PyData := if b = 0 then .error xFlat else .ok (fr (fracF a b))
noncomputable def P_partX : List PyData → Except Xw PyData → Prop := fun ds r => ∃ a b : Int, ds = [.int a, .int b] ∧ Bd 8000 a ∧ Bd 8000 b ∧ r = partR a b
theorem partR_ok {a b : Int} (h : b ≠ 0) : partR a b = .ok (fr (fracF a b)) := if_neg h
section
variable {K : Fg} {cs : Cs} {W : WX} {G : Gam} {s s1 s2 s' : Bag} {ta tb te : TE} {x y : PyData} {E : St → XK}
theorem ev_partX {a b : Int} (h1 : EvG K ta G s (.int a) s1) (h2 : EvG K tb G s1 (.int b) s2) (ha : Bd 8000 a) (hb : Bd 8000 b) (h0 : b ≠ 0) : EvG K (tCallSD (spX K cs P_partX) [] E (tCons ta (tCons tb tNil))) G s (fr (fracF a b)) s2 :=
  ev_callX (ea_cons h1 (ea_cons h2 ea_nil)) (fun _ => .nil) ⟨a, b, rfl, ha, hb, (partR_ok h0).symm⟩
end
section
variable {K : Fg} {cs : Cs}
noncomputable def t_part (K : Fg) (cs : Cs) (W : WX) : TS := (tSeq (tIfS (tTest (tOp rEq (tVar 1) (tC (V.int 0)))) (tRaiseX (cs "Flat") (spIn K ["word"] gFlat) [] tNil W) tNext)
  (tSeq (tIfS (tTest (tOp (rI0 fun i j => V.bl (decide (i < j))) (tVar 1) (tC (V.int 0)))) (tPar 0 1 (tCons (tUn (rU fun i => V.int (-i)) (tVar 0)) (tCons (tUn (rU fun i => V.int (-i)) (tVar 1)) tNil))) tNext)
  (tSeq (tAsg (tCall (spP K P_gcd) [] E0 (tCons (tVar 0) (tCons (tVar 1) tNil))) (gName 2))
  (tRet (tTup (tCons (tOp (rI CDvX fun i j => V.int (i.fdiv j)) (tVar 0) (tVar 2)) (tCons (tOp (rI CDvX fun i j => V.int (i.fdiv j)) (tVar 1) (tVar 2)) tNil)))))))
-- slots of part: 0 above, 1 below, 2 divisor
theorem ln_part : ∀ ds r, P_partX ds r → ds.length = 2 := fun ds r h => by obtain ⟨p, q, rfl, _⟩ := h; rfl
theorem rd_part {ds r} (cf : ClsF K cs "Flat" ["word"]) (h : P_partX ds r) (W : WX) (b : Bag) : RdX K cs W (t_part K cs W) (frame 3 ds) b r := qt_of (by simp (disch := with_unfolding_all
  obtain ⟨x, y, rfl, hx, hy, rfl⟩ := h
  by_cases h0 : y = 0
  · subst h0
    refine ⟨_, sx_whenT (et_is (et_test (ev_eqI (ev_var rfl) ev_int)) rfl) (sx_raise0 cf.ox cf.no rfl)⟩
  · rw [partR_ok h0]
    show SG K (t_part K cs W) _ _ _
    unfold t_part
    refine sg_when (et_is (et_test (ev_eqI (ev_var rfl) ev_int)) (decide_eq_false h0)) (fun h => by cases h) fun _ => ?_
    have hg := gI_pos x y
    have hb : Bd 8001 (gI x y) := Bd.g hx hy
    have dv : ∀ z : Int, CDvX z (gI x y) := fun z => by
      refine ⟨by omega, ?_⟩
      have h2 : (gI x y).natAbs < 2 ^ 8002 := hb.mono (by decide)
      have := PySem.Flt.log2_lt_of (by decide) h2
      omega
    by_cases hn : y < 0
    · refine sg_is (sg_seq (sg_ifT (et_is (et_test (ev_lt (ev_var rfl) ev_int)) (decide_eq_true hn)) (sg_par (ea_cons (ev_neg (ev_var rfl)) (ea_cons (ev_neg (ev_var rfl)) ea_nil)))) (sg_seq (sg_asg (ev_is (ev_gcd (ev_var rfl) (ev_var rfl)) (congrArg PyData.int (gI_neg x y)))) (sg_ret (ev_tup (ea_cons (ev_fdiv (ev_var rfl) (ev_var rfl) (dv _)) (ea_cons (ev_fdiv (ev_var rfl) (ev_var rfl) (dv _)) ea_nil)) (by show 2 ≤ 16000000; decide))))) ?_
      show Out.rt (fr ((-x).fdiv (gI x y), (-y).fdiv (gI x y))) b = Out.rt (fr (fracF x y)) b
      unfold fracF
      rw [if_pos hn, fdiv_neg2, fdiv_neg2]
    · refine sg_is (sg_seq (sg_ifF (et_is (et_test (ev_lt (ev_var rfl) ev_int)) (decide_eq_false hn)) sg_next) (sg_seq (sg_asg (ev_gcd (ev_var rfl) (ev_var rfl))) (sg_ret (ev_tup (ea_cons (ev_fdiv (ev_var rfl) (ev_var rfl) (dv _)) (ea_cons (ev_fdiv (ev_var rfl) (ev_var rfl) (dv _)) ea_nil)) (by show 2 ≤ 16000000; decide))))) ?_
      show Out.rt (fr (x.fdiv (gI x y), y.fdiv (gI x y))) b = Out.rt (fr (fracF x y)) b
      unfold fracF
      rw [if_neg hn]
  ) only [↓qt_eq])
-- slots of told01: 0 _law_above, 1 _law_below, 2 why
end

end
section

noncomputable def subF (p q : Fr) : Fr := fracF (p.1 * q.2 - q.1 * p.2) (p.2 * q.2)
noncomputable def mulF (p q : Fr) : Fr := fracF (p.1 * q.1) (p.2 * q.2)
theorem Sz.subF {n m : Nat} {p q : Fr} (hp : Sz n p) (hq : Sz m q) : Sz (n + m + 1) (U.subF p q) :=
  Sz.frac (Bd.sub (hp.1.mul hq.2) (by rw [Nat.add_comm n m]; exact hq.1.mul hp.2)) ((hp.2.mul hq.2).mono (Nat.le_succ _))
theorem Sz.mulF {n m : Nat} {p q : Fr} (hp : Sz n p) (hq : Sz m q) : Sz (n + m) (U.mulF p q) := Sz.frac (hp.1.mul hq.1) (hp.2.mul hq.2)
theorem fdiv_pos {c g : Int} (hg : 0 < g) (h : g ≤ c) : 0 < c.fdiv g := by
  rw [Int.fdiv_eq_ediv_of_nonneg _ (Int.le_of_lt hg)]
  have : 1 ≤ c / g := Int.le_ediv_of_mul_le hg (by omega)
  omega
theorem gI_le_right {a b : Int} (hb : b ≠ 0) : gI a b ≤ (b.natAbs : Int) := qt_of (by simp (disch := with_unfolding_all
  unfold gI gN
  have h1 : 0 < b.natAbs := Int.natAbs_pos.mpr hb
  have h2 := Nat.gcd_le_right (m := a.natAbs) (n := b.natAbs) h1
  have : max (Nat.gcd a.natAbs b.natAbs) 1 ≤ b.natAbs := Nat.max_le.mpr ⟨h2, h1⟩
  omega
  ) only [↓qt_eq])
theorem fracF_pos {a b : Int} (hb : b ≠ 0) : 0 < (fracF a b).2 := qt_of (by simp (disch := with_unfolding_all
  have hg := gI_pos a b
  have hl := gI_le_right (a := a) hb
  unfold fracF
  by_cases h : b < 0
  · show 0 < b.fdiv (if b < 0 then -gI a b else gI a b)
    rw [if_pos h, fdiv_neg2]
    exact fdiv_pos hg (by omega)
  · rw [if_neg h]
    exact fdiv_pos hg (by omega)
  ) only [↓qt_eq])
theorem addF_pos {p q : Fr} (hp : p.2 ≠ 0) (hq : q.2 ≠ 0) : 0 < (addF p q).2 := fracF_pos (Int.mul_ne_zero hp hq)
theorem subF_pos {p q : Fr} (hp : p.2 ≠ 0) (hq : q.2 ≠ 0) : 0 < (subF p q).2 := fracF_pos (Int.mul_ne_zero hp hq)
theorem mulF_pos {p q : Fr} (hp : p.2 ≠ 0) (hq : q.2 ≠ 0) : 0 < (mulF p q).2 := fracF_pos (Int.mul_ne_zero hp hq)
theorem partOf_pos (s : Bag) : 0 < (partOf s).2 := qt_of (by simp (disch := with_unfolding_all
  obtain ⟨y1, y2⟩ := pullV_range (pullS s 13) (n := 4) (by decide)
  have hm := menu_mem (l := [1, 1, 2, 3]) y1 y2
  refine fracF_pos ?_
  generalize menu _ _ = m at hm
  simp only [List.mem_cons, List.not_mem_nil, or_false] at hm
  omega
  ) only [↓qt_eq])
/-- .. their sizes together -/
noncomputable def P_fg (N : Nat) (C : Fr → Fr → Prop) (f : Fr → Fr → PyData) : List PyData → PyData → Prop := fun ds r => ∃ (n m : Nat) (p q : Fr), ds = [fr p, fr q] ∧ Sz n p ∧ Sz m q ∧ n + m ≤ N ∧ C p q ∧ r = f p q
theorem ln_fg {N : Nat} {C : Fr → Fr → Prop} {f : Fr → Fr → PyData} : ∀ ds r, P_fg N C f ds r → ds.length = 2 := fun ds r h => by obtain ⟨_, _, p, q, rfl, _⟩ := h; rfl
noncomputable abbrev Nz2 (p q : Fr) : Prop := p.2 ≠ 0 ∧ q.2 ≠ 0
noncomputable def P_minus := P_fg 7800 Nz2 fun p q => fr (subF p q)
noncomputable def P_times := P_fg 7800 Nz2 fun p q => fr (mulF p q)
noncomputable def P_lsub := P_fg 7800 (fun _ _ => True) fun p q => fr (subF p q)
noncomputable def P_lmul := P_fg 7800 (fun _ _ => True) fun p q => fr (mulF p q)
section
variable {K : Fg} {cs : Cs} {W : WX} {G : Gam} {s s1 s2 s' : Bag} {ta tb te : TE} {x y : PyData} {E : St → XK} {E' : XK} {p q : Fr}
theorem ev_fg {n N : Nat} {C : Fr → Fr → Prop} {f : Fr → Fr → PyData} (h1 : EvG K ta G s (fr p) s1) (h2 : EvG K tb G s1 (fr q) s2) (hp : Sz n p) (hq : Sz n q) (hN : n + n ≤ N) (hc : C p q) : EvG K (tCall (spP K (P_fg N C f)) [] E' (tCons ta (tCons tb tNil))) G s (f p q) s2 :=
  ev_call (ea_cons h1 (ea_cons h2 ea_nil)) (fun _ => .nil) ⟨n, n, p, q, rfl, hp, hq, hN, hc, rfl⟩
theorem ev_minus (h1 : EvG K ta G s (fr p) s1) (h2 : EvG K tb G s1 (fr q) s2) (hp : Sz 3900 p) (hq : Sz 3900 q) (hc : Nz2 p q) : EvG K (tCall (spP K P_minus) [] E' (tCons ta (tCons tb tNil))) G s (fr (subF p q)) s2 := ev_fg h1 h2 hp hq (by decide) hc
theorem ev_times (h1 : EvG K ta G s (fr p) s1) (h2 : EvG K tb G s1 (fr q) s2) (hp : Sz 3900 p) (hq : Sz 3900 q) (hc : Nz2 p q) : EvG K (tCall (spP K P_times) [] E' (tCons ta (tCons tb tNil))) G s (fr (mulF p q)) s2 := ev_fg h1 h2 hp hq (by decide) hc
theorem ev_lsub (h1 : EvG K ta G s (fr p) s1) (h2 : EvG K tb G s1 (fr q) s2) (hp : Sz 1900 p) (hq : Sz 1900 q) : EvG K (tCall (spP K P_lsub) [] E' (tCons ta (tCons tb tNil))) G s (fr (subF p q)) s2 := ev_fg h1 h2 hp hq (by decide) trivial
theorem ev_lmul (h1 : EvG K ta G s (fr p) s1) (h2 : EvG K tb G s1 (fr q) s2) (hp : Sz 1900 p) (hq : Sz 1900 q) : EvG K (tCall (spP K P_lmul) [] E' (tCons ta (tCons tb tNil))) G s (fr (mulF p q)) s2 := ev_fg h1 h2 hp hq (by decide) trivial
-- slots of plus: 0 one, 1 other
noncomputable def t_minus (K : Fg) (cs : Cs) : TS := (tRet (tCallSD (spX K cs P_partX) [] (WE W0) (tCons (tOp (rI0 fun i j => V.int (i - j)) (tOp (rI CMulW fun i j => V.int (i * j)) (tOp (rIx K) (tVar 0) (tC (V.int 0))) (tOp (rIx K) (tVar 1) (tC (V.int 1)))) (tOp (rI CMulW fun i j => V.int (i * j)) (tOp (rIx K) (tVar 1) (tC (V.int 0))) (tOp (rIx K) (tVar 0) (tC (V.int 1))))) (tCons (tOp (rI CMulW fun i j => V.int (i * j)) (tOp (rIx K) (tVar 0) (tC (V.int 1))) (tOp (rIx K) (tVar 1) (tC (V.int 1)))) tNil))))
-- slots of minus: 0 one, 1 other
theorem ln_minus : ∀ ds r, P_minus ds r → ds.length = 2 := ln_fg
theorem rd_minus {ds r} (h : P_minus ds r) (b : Bag) : SG K (t_minus K cs) (frame 2 ds) b (.rt r b) := qt_of (by simp (disch := with_unfolding_all
  obtain ⟨n, m, p, q, rfl, hp, hq, hl, hc, rfl⟩ := h
  exact sg_ret (ev_partX (ev_sub (ev_mul (ev_fst (ev_var rfl)) (ev_snd (ev_var rfl)) (hp.1.cm hq.2 (by omega))) (ev_mul (ev_fst (ev_var rfl)) (ev_snd (ev_var rfl)) (hq.1.cm hp.2 (by omega)))) (ev_mul (ev_snd (ev_var rfl)) (ev_snd (ev_var rfl)) (hp.2.cm hq.2 (by omega)))
    ((Bd.sub (hp.1.mul hq.2) (by rw [Nat.add_comm n m]; exact hq.1.mul hp.2)).mono (by omega)) ((hp.2.mul hq.2).mono (by omega)) (Int.mul_ne_zero hc.1 hc.2))
  ) only [↓qt_eq])
noncomputable def t_times (K : Fg) (cs : Cs) : TS := (tRet (tCallSD (spX K cs P_partX) [] (WE W0) (tCons (tOp (rI CMulW fun i j => V.int (i * j)) (tOp (rIx K) (tVar 0) (tC (V.int 0))) (tOp (rIx K) (tVar 1) (tC (V.int 0)))) (tCons (tOp (rI CMulW fun i j => V.int (i * j)) (tOp (rIx K) (tVar 0) (tC (V.int 1))) (tOp (rIx K) (tVar 1) (tC (V.int 1)))) tNil))))
-- slots of times: 0 one, 1 other
theorem ln_times : ∀ ds r, P_times ds r → ds.length = 2 := ln_fg
theorem rd_times {ds r} (h : P_times ds r) (b : Bag) : SG K (t_times K cs) (frame 2 ds) b (.rt r b) := qt_of (by simp (disch := with_unfolding_all
  obtain ⟨n, m, p, q, rfl, hp, hq, hl, hc, rfl⟩ := h
  exact sg_ret (ev_partX (ev_mul (ev_fst (ev_var rfl)) (ev_fst (ev_var rfl)) (hp.1.cm hq.1 (by omega))) (ev_mul (ev_snd (ev_var rfl)) (ev_snd (ev_var rfl)) (hp.2.cm hq.2 (by omega)))
    ((hp.1.mul hq.1).mono (by omega)) ((hp.2.mul hq.2).mono (by omega)) (Int.mul_ne_zero hc.1 hc.2))
  ) only [↓qt_eq])
-- slots of over: 0 one, 1 other
-- slots of middle: 0 one, 1 other
noncomputable def t__law_sub (K : Fg) : TS := (tRet (tCall (spP K P_frac) [] E0 (tCons (tOp (rI0 fun i j => V.int (i - j)) (tOp (rI CMulW fun i j => V.int (i * j)) (tOp (rIx K) (tVar 0) (tC (V.int 0))) (tOp (rIx K) (tVar 1) (tC (V.int 1)))) (tOp (rI CMulW fun i j => V.int (i * j)) (tOp (rIx K) (tVar 1) (tC (V.int 0))) (tOp (rIx K) (tVar 0) (tC (V.int 1))))) (tCons (tOp (rI CMulW fun i j => V.int (i * j)) (tOp (rIx K) (tVar 0) (tC (V.int 1))) (tOp (rIx K) (tVar 1) (tC (V.int 1)))) tNil))))
-- slots of _law_sub: 0 _law_one, 1 _law_other
theorem ln__law_sub : ∀ ds r, P_lsub ds r → ds.length = 2 := ln_fg
theorem rd__law_sub {ds r} (h : P_lsub ds r) (b : Bag) : SG K (t__law_sub K) (frame 2 ds) b (.rt r b) := qt_of (by simp (disch := with_unfolding_all
  obtain ⟨n, m, p, q, rfl, hp, hq, hl, hc, rfl⟩ := h
  exact sg_ret (ev_fracN (ev_sub (ev_mul (ev_fst (ev_var rfl)) (ev_snd (ev_var rfl)) (hp.1.cm hq.2 (by omega))) (ev_mul (ev_fst (ev_var rfl)) (ev_snd (ev_var rfl)) (hq.1.cm hp.2 (by omega)))) (ev_mul (ev_snd (ev_var rfl)) (ev_snd (ev_var rfl)) (hp.2.cm hq.2 (by omega)))
    ((Bd.sub (hp.1.mul hq.2) (by rw [Nat.add_comm n m]; exact hq.1.mul hp.2)).mono (by omega)) ((hp.2.mul hq.2).mono (by omega)))
  ) only [↓qt_eq])
noncomputable def t__law_mul (K : Fg) : TS := (tRet (tCall (spP K P_frac) [] E0 (tCons (tOp (rI CMulW fun i j => V.int (i * j)) (tOp (rIx K) (tVar 0) (tC (V.int 0))) (tOp (rIx K) (tVar 1) (tC (V.int 0)))) (tCons (tOp (rI CMulW fun i j => V.int (i * j)) (tOp (rIx K) (tVar 0) (tC (V.int 1))) (tOp (rIx K) (tVar 1) (tC (V.int 1)))) tNil))))
-- slots of _law_mul: 0 _law_one, 1 _law_other
theorem ln__law_mul : ∀ ds r, P_lmul ds r → ds.length = 2 := ln_fg
theorem rd__law_mul {ds r} (h : P_lmul ds r) (b : Bag) : SG K (t__law_mul K) (frame 2 ds) b (.rt r b) := qt_of (by simp (disch := with_unfolding_all
  obtain ⟨n, m, p, q, rfl, hp, hq, hl, hc, rfl⟩ := h
  exact sg_ret (ev_fracN (ev_mul (ev_fst (ev_var rfl)) (ev_fst (ev_var rfl)) (hp.1.cm hq.1 (by omega))) (ev_mul (ev_snd (ev_var rfl)) (ev_snd (ev_var rfl)) (hp.2.cm hq.2 (by omega)))
    ((hp.1.mul hq.1).mono (by omega)) ((hp.2.mul hq.2).mono (by omega)))
  ) only [↓qt_eq])
-- slots of _law_div: 0 _law_one, 1 _law_other
-- slots of told03: 0 _law_one, 1 _law_other, 2 why
end

end
section

/-! ### fractions in lowest terms -/
theorem gI_dvd_left {a b : Int} (hb : b ≠ 0) : ∃ c, a = gI a b * c := qt_of (by simp (disch := with_unfolding_all
  have e : gI a b = (Nat.gcd a.natAbs b.natAbs : Nat) := by
    unfold gI gN
    have : 0 < Nat.gcd a.natAbs b.natAbs := Nat.gcd_pos_of_pos_right _ (Int.natAbs_pos.mpr hb)
    have : max (Nat.gcd a.natAbs b.natAbs) 1 = Nat.gcd a.natAbs b.natAbs := Nat.max_eq_left this
    omega
  rw [e]
  exact Int.ofNat_dvd_left.mpr (Nat.gcd_dvd_left _ _)
  ) only [↓qt_eq])
theorem gI_dvd_right {a b : Int} (hb : b ≠ 0) : ∃ c, b = gI a b * c := qt_of (by simp (disch := with_unfolding_all
  have e : gI a b = (Nat.gcd a.natAbs b.natAbs : Nat) := by
    unfold gI gN
    have : 0 < Nat.gcd a.natAbs b.natAbs := Nat.gcd_pos_of_pos_right _ (Int.natAbs_pos.mpr hb)
    have : max (Nat.gcd a.natAbs b.natAbs) 1 = Nat.gcd a.natAbs b.natAbs := Nat.max_eq_left this
    omega
  rw [e]
  exact Int.ofNat_dvd_left.mpr (Nat.gcd_dvd_right _ _)
  ) only [↓qt_eq])
/-- fracF by its factor -/
theorem fracF_spec {a b : Int} (hb : b ≠ 0) : ∃ k : Int, k ≠ 0 ∧ a = k * (fracF a b).1 ∧ b = k * (fracF a b).2 ∧ k.natAbs = Nat.gcd a.natAbs b.natAbs := qt_of (by simp (disch := with_unfolding_all
  have hg := gI_pos a b
  have hn : gI a b = (Nat.gcd a.natAbs b.natAbs : Nat) := by
    unfold gI gN
    have : 0 < Nat.gcd a.natAbs b.natAbs := Nat.gcd_pos_of_pos_right _ (Int.natAbs_pos.mpr hb)
    have : max (Nat.gcd a.natAbs b.natAbs) 1 = Nat.gcd a.natAbs b.natAbs := Nat.max_eq_left this
    omega
  obtain ⟨c, hc⟩ := gI_dvd_left (a := a) hb
  obtain ⟨d, hd⟩ := gI_dvd_right (a := a) hb
  have fd : ∀ (g x : Int), g ≠ 0 → (g * x).fdiv g = x := fun g x h => Int.mul_fdiv_cancel_left x h
  unfold fracF
  by_cases h : b < 0
  · rw [if_pos h]
    refine ⟨-gI a b, by omega, ?_, ?_, by rw [Int.natAbs_neg, hn, Int.natAbs_natCast]⟩
    · have : a = -gI a b * -c := by rw [Int.neg_mul_neg]; exact hc
      show a = -gI a b * a.fdiv (-gI a b)
      have e := fd (-gI a b) (-c) (by omega)
      rw [← this] at e
      rw [e]; exact this
    · have : b = -gI a b * -d := by rw [Int.neg_mul_neg]; exact hd
      show b = -gI a b * b.fdiv (-gI a b)
      have e := fd (-gI a b) (-d) (by omega)
      rw [← this] at e
      rw [e]; exact this
  · rw [if_neg h]
    refine ⟨gI a b, by omega, ?_, ?_, by rw [hn, Int.natAbs_natCast]⟩
    · show a = gI a b * a.fdiv (gI a b)
      have e := fd (gI a b) c (by omega)
      rw [← hc] at e
      rw [e]; exact hc
    · show b = gI a b * b.fdiv (gI a b)
      have e := fd (gI a b) d (by omega)
      rw [← hd] at e
      rw [e]; exact hd
  ) only [↓qt_eq])
theorem fracF_low {a b : Int} (hb : b ≠ 0) : gI (fracF a b).1 (fracF a b).2 = 1 := qt_of (by simp (disch := with_unfolding_all
  obtain ⟨k, hk, h1, h2, h3⟩ := fracF_spec (a := a) hb
  have hpos : 0 < k.natAbs := Int.natAbs_pos.mpr hk
  generalize (fracF a b).1 = x at *
  generalize (fracF a b).2 = y at *
  have : Nat.gcd (k * x).natAbs (k * y).natAbs = k.natAbs * Nat.gcd x.natAbs y.natAbs := by
    rw [Int.natAbs_mul, Int.natAbs_mul, Nat.gcd_mul_left]
  rw [← h1, ← h2, ← h3] at this
  have g1 : Nat.gcd x.natAbs y.natAbs = 1 := Nat.eq_of_mul_eq_mul_left hpos (by rw [← this, Nat.mul_one])
  unfold gI gN
  rw [g1]
  rfl
  ) only [↓qt_eq])
theorem fracF_isPart {a b : Int} (hb : b ≠ 0) : isPart (fr (fracF a b)) = true := by
  show (decide (0 < (fracF a b).2) && decide (gI (fracF a b).1 (fracF a b).2 = 1)) = true
  rw [decide_eq_true (fracF_pos hb), decide_eq_true (fracF_low hb)]
  rfl
theorem partOf_isPart (s : Bag) : isPart (fr (partOf s)) = true := qt_of (by simp (disch := with_unfolding_all
  obtain ⟨y1, y2⟩ := pullV_range (pullS s 13) (n := 4) (by decide)
  have hm := menu_mem (l := [1, 1, 2, 3]) y1 y2
  refine fracF_isPart ?_
  generalize menu _ _ = m at hm
  simp only [List.mem_cons, List.not_mem_nil, or_false] at hm
  omega
  ) only [↓qt_eq])
/-! ### spots -/
noncomputable def isSpotL (room : Int) (xs : List PyData) : Bool := decide ((xs.length : Int) = room) && xs.all isPart
noncomputable def isSpot (room : Int) : PyData → Bool
  | .tuple xs => [1, 2].contains room && isSpotL room xs
  | _ => false
noncomputable def P_isSpot : List PyData → PyData → Prop := fun ds r => ∃ (x : PyData) (n : Int), ds = [x, .int n] ∧ r = .bool (isSpot n x)
noncomputable def spotOf (n : Nat) (s : Bag) : List PyData := drawn (fun s => fr (partOf s)) partS n s
noncomputable def spotS (n : Nat) (s : Bag) : Bag := itB partS n s
noncomputable def P_spot : Bag → List PyData → PyData → Bag → Prop := fun s ds r s' => ∃ n : Nat, ds = [.int n] ∧ n ≤ 1000 ∧ r = .tuple (spotOf n s) ∧ s' = spotS n s
section
variable {K : Fg} {cs : Cs} {W : WX} {G : Gam} {s s1 s2 s' : Bag} {ta tb te : TE} {x y : PyData} {E : XK}
noncomputable def t_is_spot (K : Fg) : TS := (tSeq (tIfS (tOr (tTest (tOp (rIn K true) (tVar 1) (tTup (tCons (tC (V.int 1)) (tCons (tC (V.int 2)) tNil))))) (tOr (tNot (tB (tCB (rIsi K) (tCons (tVar 0) (tCons (tC (V.ty "tuple")) tNil))))) (tTest (tOp rNe (tCB (rLenQ K) (tCons (tVar 0) tNil)) (tVar 1))))) (tRet (tC (V.bl false))) tNext)
  (tRet (tCB (rAll K) (tCons (tLc (iTup K (tVar 0)) (gName 2) tYes (tCall (spP K P_isPart) [] E0 (tCons (tVar 2) tNil)) [2]) tNil))))
-- slots of is_spot: 0 thing, 1 room, 2 one
theorem ln_is_spot : ∀ ds r, P_isSpot ds r → ds.length = 2 := fun ds r h => by obtain ⟨p, q, rfl, _⟩ := h; rfl
theorem rd_is_spot {ds r} (h : P_isSpot ds r) (b : Bag) : SG K (t_is_spot K) (frame 3 ds) b (.rt r b) := qt_of (by simp (disch := with_unfolding_all
  obtain ⟨x, n, rfl, rfl⟩ := h
  unfold t_is_spot
  have v0 : EvG K (tVar 0) (frame 3 [x, .int n]) b x b := ev_var rfl
  have v1 : EvG K (tVar 1) (frame 3 [x, .int n]) b (.int n) b := ev_var rfl
  have t1 : EvT K (tTest (tOp (rIn K true) (tVar 1) (tTup (tCons (tC (V.int 1)) (tCons (tC (V.int 2)) tNil))))) (frame 3 [x, .int n]) b (!([1, 2] : List Int).contains n) b := et_test (ev_inT (ns := [1, 2]) (neg := true) v1 (ev_tup (ea_cons ev_int (ea_cons ev_int ea_nil)) (by show 2 ≤ 16000000; decide)))
  cases hx : isTup x with
  | false =>
    refine sg_when (et_is (et_or t1 fun _ => et_orT (et_is (et_not (et_B (ev_isi v0 (kit_tup x)))) (by rw [hx]; rfl))) (b' := true) (by simp)) (fun _ => ?_) (fun h => by cases h)
    refine sg_seqR (sg_is (sg_ret ev_bl) ?_)
    cases x <;> first | rfl | cases hx
  | true =>
    cases x <;> first | cases hx | skip
    rename_i xs
    refine sg_when (et_or t1 fun _ => et_or (et_not (et_B (ev_isi v0 kit_tuple_tuple))) fun _ => et_test (ev_neI (ev_lenT v0) v1)) (fun h => ?_) fun h => ?_
    · refine sg_seqR (sg_is (sg_ret ev_bl) ?_)
      have : isSpot n (.tuple xs) = false := by
        show ([1, 2].contains n && (decide ((xs.length : Int) = n) && xs.all isPart)) = false
        cases hc : ([1, 2] : List Int).contains n with
        | false => rfl
        | true =>
          rw [hc] at h
          have h : (!decide ((xs.length : Int) = n)) = true := by simpa using h
          cases hd : decide ((xs.length : Int) = n) with
          | false => rfl
          | true => rw [hd] at h; cases h
      rw [this]
    · have h1 : ([1, 2] : List Int).contains n = true := by
        cases hc : ([1, 2] : List Int).contains n with
        | false => rw [hc] at h; cases h
        | true => rfl
      rw [h1] at h
      have h : (!decide ((xs.length : Int) = n)) = false := by simpa using h
      have h2 : decide ((xs.length : Int) = n) = true := by simpa using h
      have hl : xs.length ≤ 2 := by
        have e := of_decide_eq_true h2
        have : n = 1 ∨ n = 2 := by
          simp only [List.contains_cons, List.contains_nil, Bool.or_false, Bool.or_eq_true, beq_iff_eq] at h1
          exact h1
        omega
      refine sg_is (sg_ret (ev_all (bs := xs.map isPart) (ev_is (ev_lcM (src_tup v0) (fun y => .bool (isPart y)) (un_at rfl) (by omega) fun y hy => ⟨_, tgt_name, ev_isPart (ev_var rfl)⟩) ?_))) ?_
      · rw [List.map_map]; rfl
      · show Out.rt (.bool ((xs.map isPart).all id)) b = Out.rt (.bool ([1, 2].contains n && (decide ((xs.length : Int) = n) && xs.all isPart))) b
        rw [h1, h2, List.all_map]
        rfl
  ) only [↓qt_eq])
noncomputable def t__law_spot (K : Fg) : TS := (tRet (tCB (rTupQ K) (tCons (tLc (iRng1 (tCons (tVar 1) tNil)) (gName 2) tYes (tCall (spB K P_part) [] E0 (tCons (tVar 0) tNil)) [2]) tNil)))
-- slots of _law_spot: 0 _law_bag_here, 1 _law_rank, 2 _law_at
theorem ln__law_spot : ∀ s ds r s', P_spot s ds r s' → ds.length + 1 = 2 := fun s ds r s' h => by obtain ⟨n, rfl, _⟩ := h; rfl
theorem rd__law_spot {s ds r s'} (h : P_spot s ds r s') (ok : s.ok) : SG K (t__law_spot K) (.bag :: frame 2 ds) s (.rt r s') := qt_of (by simp (disch := with_unfolding_all
  obtain ⟨n, rfl, hn, rfl, rfl⟩ := h
  have e := ev_lcDraw (K := K) (te := tCall (spB K P_part) [] E0 (tCons (tVar 0) tNil)) (G := .bag :: frame 2 [.int n]) (src_rng1 (ta := tCons (tVar 1) tNil) (s := s) (ea_cons (ev_var rfl) ea_nil) ⟨by omega, by omega⟩) (g := gName 2) (vs := [2]) (fun s => fr (partOf s)) partS (un_at rfl) (by rw [rngD_len]; omega)
    (fun x s hx => ⟨_, tgt_name, ev_part rfl⟩)
  rw [rngD_len, Int.toNat_natCast] at e
  exact sg_ret (ev_tupL e)
  ) only [↓qt_eq])
end

end
end U
end
section
namespace U
open PySem PyProof.Rows L2 Evl
/-! ### fractions as rational numbers -/
noncomputable def val (p : Fr) : Rat := (p.1 : Rat) / (p.2 : Rat)
structure Gd (n : Nat) (p : Fr) : Prop where
  sz : Sz n p
  pos : 0 < p.2
  low : gI p.1 p.2 = 1
theorem Gd.mono {n m : Nat} {p : Fr} (h : Gd n p) (l : n ≤ m) : Gd m p := ⟨h.sz.mono l, h.pos, h.low⟩
theorem Gd.ne {n : Nat} {p : Fr} (h : Gd n p) : p.2 ≠ 0 := Int.ne_of_gt h.pos
theorem qne {a : Int} (h : a ≠ 0) : (a : Rat) ≠ 0 := fun e => h (by exact_mod_cast e)
theorem qpos {a : Int} (h : 0 < a) : 0 < (a : Rat) := Rat.intCast_pos.mpr h
theorem Gd.qpos {n : Nat} {p : Fr} (h : Gd n p) : 0 < (p.2 : Rat) := U.qpos h.pos
theorem Gd.qne {n : Nat} {p : Fr} (h : Gd n p) : (p.2 : Rat) ≠ 0 := U.qne h.ne
theorem Gd.frac {n : Nat} {a b : Int} (ha : Bd n a) (hb : Bd n b) (h : b ≠ 0) : Gd n (fracF a b) := ⟨Sz.frac ha hb, fracF_pos h, fracF_low h⟩
theorem Gd.add {n m : Nat} {p q : Fr} (hp : Gd n p) (hq : Gd m q) : Gd (n + m + 1) (addF p q) := ⟨Sz.add hp.sz hq.sz, addF_pos hp.ne hq.ne, fracF_low (Int.mul_ne_zero hp.ne hq.ne)⟩
theorem Gd.sub {n m : Nat} {p q : Fr} (hp : Gd n p) (hq : Gd m q) : Gd (n + m + 1) (subF p q) := ⟨Sz.subF hp.sz hq.sz, subF_pos hp.ne hq.ne, fracF_low (Int.mul_ne_zero hp.ne hq.ne)⟩
theorem Gd.mul {n m : Nat} {p q : Fr} (hp : Gd n p) (hq : Gd m q) : Gd (n + m) (mulF p q) := ⟨Sz.mulF hp.sz hq.sz, mulF_pos hp.ne hq.ne, fracF_low (Int.mul_ne_zero hp.ne hq.ne)⟩
theorem partOf_gd (s : Bag) : Gd 10 (partOf s) := qt_of (by simp (disch := with_unfolding_all
  refine ⟨partOf_sz s, partOf_pos s, ?_⟩
  have h := partOf_isPart s
  have h : (decide (0 < (partOf s).2) && decide (gI (partOf s).1 (partOf s).2 = 1)) = true := h
  exact of_decide_eq_true (Bool.and_eq_true_iff.mp h).2
  ) only [↓qt_eq])
theorem val_frac {a b : Int} (hb : b ≠ 0) : val (fracF a b) = (a : Rat) / (b : Rat) := qt_of (by simp (disch := with_unfolding_all
  obtain ⟨k, hk, h1, h2, _⟩ := fracF_spec (a := a) hb
  have hy := Int.ne_of_gt (fracF_pos (a := a) hb)
  unfold val
  generalize (fracF a b).1 = x at *
  generalize (fracF a b).2 = y at *
  have k0 := qne hk
  have y0 := qne hy
  rw [h1, h2, Rat.intCast_mul, Rat.intCast_mul]
  grind
  ) only [↓qt_eq])
theorem val_sub {n m : Nat} {p q : Fr} (hp : Gd n p) (hq : Gd m q) : val (subF p q) = val p - val q := by
  unfold subF
  rw [val_frac (Int.mul_ne_zero hp.ne hq.ne), Rat.intCast_sub, Rat.intCast_mul, Rat.intCast_mul, Rat.intCast_mul]
  have := hp.qne
  have := hq.qne
  unfold val
  grind
theorem val_mul {n m : Nat} {p q : Fr} (hp : Gd n p) (hq : Gd m q) : val (mulF p q) = val p * val q := by
  unfold mulF
  rw [val_frac (Int.mul_ne_zero hp.ne hq.ne), Rat.intCast_mul, Rat.intCast_mul]
  have := hp.qne
  have := hq.qne
  unfold val
  grind
/-! ### signs -/
theorem tri (x : Rat) : x < 0 ∨ x = 0 ∨ 0 < x := by grind
noncomputable def sgnQ (x : Rat) : Int := if 0 < x then 1 else if x < 0 then -1 else 0
theorem sgn_eq (a : Int) : sgn a = if 0 < a then 1 else if a < 0 then -1 else 0 := by
  unfold sgn
  by_cases h1 : 0 < a <;> by_cases h2 : a < 0 <;> simp [h1, h2] <;> omega
theorem sgn_int (a : Int) : sgn a = sgnQ (a : Rat) := qt_of (by simp (disch := with_unfolding_all
  rw [sgn_eq]
  unfold sgnQ
  have e1 : (0 : Rat) < (a : Rat) ↔ 0 < a := Rat.intCast_pos
  have e2 : (a : Rat) < 0 ↔ a < 0 := by
    have := Rat.intCast_lt_intCast (a := a) (b := 0)
    simpa using this
  simp only [e1, e2]
  ) only [↓qt_eq])
theorem sgnQ_mul {k x : Rat} (hk : 0 < k) : sgnQ (k * x) = sgnQ x := qt_of (by simp (disch := with_unfolding_all
  unfold sgnQ
  have e1 : 0 < k * x ↔ 0 < x := by
    constructor
    · intro h
      rcases tri x with z | z | z
      · have := Rat.mul_pos hk (show 0 < -x by grind)
        grind
      · rw [z, Rat.mul_zero] at h; exact absurd h (by decide)
      · exact z
    · exact fun h => Rat.mul_pos hk h
  have e2 : k * x < 0 ↔ x < 0 := by
    constructor
    · intro h
      rcases tri x with z | z | z
      · exact z
      · rw [z, Rat.mul_zero] at h; exact absurd h (by decide)
      · have := Rat.mul_pos hk z
        grind
    · intro h
      have := Rat.mul_pos hk (show 0 < -x by grind)
      grind
  simp only [e1, e2]
  ) only [↓qt_eq])
theorem ord_sgn (p q : Fr) : ordF p q = sgn (p.1 * q.2 - q.1 * p.2) := by
  unfold ordF sgn
  generalize p.1 * q.2 - q.1 * p.2 = g
  by_cases h1 : 0 < g <;> by_cases h2 : g < 0 <;> simp [h1, h2, b2i]
theorem ord_val {n m : Nat} {p q : Fr} (hp : Gd n p) (hq : Gd m q) : ordF p q = sgnQ (val p - val q) := qt_of (by simp (disch := with_unfolding_all
  rw [ord_sgn, sgn_int, Rat.intCast_sub, Rat.intCast_mul, Rat.intCast_mul]
  have e : (p.1 : Rat) * q.2 - q.1 * p.2 = ((p.2 : Rat) * q.2) * (val p - val q) := by
    have := hp.qne
    have := hq.qne
    unfold val
    grind
  rw [e, sgnQ_mul (Rat.mul_pos hp.qpos hq.qpos)]
  ) only [↓qt_eq])
end U

end
section
namespace U
open PySem PyProof.Rows L2 Evl
local macro_rules | `(tactic| walk_at "ev1a") => do
  let a ← ("ev_ixDisp ev_fst ev_snd ev_add ev_sub ev_mul ev_fdiv ev_mod ev_pow ev_lt ev_le ev_gt ev_ge ev_eqI ev_neI ev_neg ev_subB ev_isNo ev_noNo ev_not et_test et_B et_not ev_abs ev_max ev_min ev_intB ev_gcd ev_frac ev_fadd ev_sign ev_cmpF".splitOn " ").mapM fun (n : String) => `(tacticSeq| with_reducible apply $(Lean.mkIdent n.toName):ident)
  let b := a.toArray
  `(tactic| first $[| $b:tacticSeq]*)
local macro_rules | `(tactic| walk_at "ev1b") => do
  let a ← ("ev_like ev_tup ev_lst ea_cons eo_some ev_order".splitOn " ").mapM fun (n : String) => `(tacticSeq| with_reducible apply $(Lean.mkIdent n.toName):ident)
  let b := a.toArray
  `(tactic| first $[| $b:tacticSeq]*)
local macro_rules | `(tactic| walk_at "ev1") => `(tactic| first
  | exact ev_int | exact ev_bl | exact ev_str | exact ev_non | exact ev_var rfl | exact ea_nil | exact eo_none
  | walk_at "ev1a"
  | with_reducible apply ev_pull rfl
  | walk_at "ev1b"
  | exact ev_part rfl | exact ev_far rfl | exact ev_farPart rfl
  | (with_reducible show List.length _ ≤ 16000000; (simp; done)) | (with_reducible show (0 : Int) < _; decide) | (with_reducible show (_ : Int) < 1000000000000; decide) | (with_reducible show CPow _ _; (unfold CPow; decide)) | (with_reducible show CNz _ _; (unfold CNz; decide))
  | with_reducible apply sg_ret | with_reducible apply sg_asg | with_reducible apply sg_next)
local macro_rules | `(tactic| walk_at "ln") => `(tactic| first | walk_at "ev1" | with_reducible apply sg_seq)
section

/-! ### rows of fractions -/
noncomputable abbrev frs (ps : List Fr) : PyData := .tuple (ps.map fr)
noncomputable def Gds (n : Nat) (ps : List Fr) : Prop := ∀ p ∈ ps, Gd n p
theorem Gds.mono {n m : Nat} {ps : List Fr} (h : Gds n ps) (l : n ≤ m) : Gds m ps := fun p hp => (h p hp).mono l
theorem Gds.two {n : Nat} {p q : Fr} (hp : Gd n p) (hq : Gd n q) : Gds n [p, q] := fun x hx => by
  rcases List.mem_cons.mp hx with rfl | hx
  · exact hp
  · rw [List.mem_singleton.mp hx]; exact hq
theorem Gds.fst {n : Nat} {p q : Fr} (h : Gds n [p, q]) : Gd n p := h p (List.mem_cons_self ..)
theorem Gds.snd {n : Nat} {p q : Fr} (h : Gds n [p, q]) : Gd n q := h q (List.mem_cons_of_mem _ (List.mem_cons_self ..))
section
variable {K : Fg} {cs : Cs} {W : WX} {G : Gam} {s s1 s2 s3 s' : Bag} {ta tb tc te : TE} {x y : PyData} {E : XK}
/-- [elt for target in ..], nothing drawn, by what each turn gives -/
theorem ev_lcI {wi : TI} {g : TG} {vs : List Nat} {ds es : List PyData} (h : Src K wi G s ds s1) (hl : es.length = ds.length) (hu : ∀ i e, i ∈ vs → G[i]? = some e → e = .un) (hz : ds.length ≤ 16000000)
    (hs : ∀ (i : Nat) x y, ds[i]? = some x → es[i]? = some y → ∃ Gt, Tgt K g vs G x Gt ∧ EvG K te Gt s1 y s1) : EvG K (tLc wi g tYes te vs) G s (.list es) s1 := by
  have k := ev_lc (K := K) (te := te) (tt := tYes) h (fun i => es[i]?) (fun _ => s1) rfl hu hz fun i x hx => by
    have il := (List.getElem?_eq_some_iff.mp hx).1
    have hy : es[i]? = some (es[i]'(by omega)) := List.getElem?_eq_getElem _
    obtain ⟨Gt, a, b⟩ := hs i x _ hx hy
    refine ⟨Gt, s1, a, ?_, fun y e => ?_, fun hn => rfl⟩
    · rw [hy]; exact et_yes
    · rw [hy] at e
      cases e
      exact b
  have e := range_fm_map (ds := es) id
  rw [List.map_id, hl] at e
  have e2 : (fun i : Nat => (es[i]?).map id) = fun i : Nat => es[i]? := by funext i; simp
  rw [e2] at e
  rw [e] at k
  exact k
theorem ev_minusG {p q : Fr} (h1 : EvG K ta G s (fr p) s1) (h2 : EvG K tb G s1 (fr q) s2) (hp : Gd 3900 p) (hq : Gd 3900 q) : EvG K (tCall (spP K P_minus) [] E (tCons ta (tCons tb tNil))) G s (fr (subF p q)) s2 := ev_minus h1 h2 hp.sz hq.sz ⟨hp.ne, hq.ne⟩
theorem ev_timesG {p q : Fr} (h1 : EvG K ta G s (fr p) s1) (h2 : EvG K tb G s1 (fr q) s2) (hp : Gd 3900 p) (hq : Gd 3900 q) : EvG K (tCall (spP K P_times) [] E (tCons ta (tCons tb tNil))) G s (fr (mulF p q)) s2 := ev_times h1 h2 hp.sz hq.sz ⟨hp.ne, hq.ne⟩
theorem atI_fr {ps : List Fr} {i : Nat} {p : Fr} (h : ps[i]? = some p) : atI (ps.map fr) (i : Int) = some (fr p) := atI_nat (by rw [List.getElem?_map, h]; rfl)
/-! step_from, across, side_of -/
noncomputable def stepF (ps qs : List Fr) : List Fr := List.zipWith (fun p q => subF q p) ps qs
noncomputable def P_step : List PyData → PyData → Prop := fun ds r => ∃ ps qs : List Fr, ds = [frs ps, frs qs] ∧ ps.length = qs.length ∧ ps.length ≤ 1000 ∧ Gds 3900 ps ∧ Gds 3900 qs ∧ r = frs (stepF ps qs)
noncomputable def acrossF (a b c d : Fr) : Fr := subF (mulF a d) (mulF b c)
noncomputable def P_across : List PyData → PyData → Prop := fun ds r => ∃ a b c d : Fr, ds = [frs [a, b], frs [c, d]] ∧ Gd 1900 a ∧ Gd 1900 b ∧ Gd 1900 c ∧ Gd 1900 d ∧ r = fr (acrossF a b c d)
noncomputable def sideF (a b c d e f : Fr) : Int := ordF (acrossF (subF c a) (subF d b) (subF e a) (subF f b)) (0, 1)
noncomputable def P_side : List PyData → PyData → Prop := fun ds r => ∃ a b c d e f : Fr, ds = [frs [a, b], frs [c, d], frs [e, f]] ∧ Gd 900 a ∧ Gd 900 b ∧ Gd 900 c ∧ Gd 900 d ∧ Gd 900 e ∧ Gd 900 f ∧ r = .int (sideF a b c d e f)
theorem ev_step {ps qs : List Fr} (h1 : EvG K ta G s (frs ps) s1) (h2 : EvG K tb G s1 (frs qs) s2) (hl : ps.length = qs.length) (hn : ps.length ≤ 1000) (hp : Gds 3900 ps) (hq : Gds 3900 qs) : EvG K (tCall (spP K P_step) [] E (tCons ta (tCons tb tNil))) G s (frs (stepF ps qs)) s2 :=
  ev_call (ea_cons h1 (ea_cons h2 ea_nil)) (fun _ => .nil) ⟨ps, qs, rfl, hl, hn, hp, hq, rfl⟩
theorem ev_across {a b c d : Fr} (h1 : EvG K ta G s (frs [a, b]) s1) (h2 : EvG K tb G s1 (frs [c, d]) s2) (ha : Gd 1900 a) (hb : Gd 1900 b) (hc : Gd 1900 c) (hd : Gd 1900 d) : EvG K (tCall (spP K P_across) [] E (tCons ta (tCons tb tNil))) G s (fr (acrossF a b c d)) s2 :=
  ev_call (ea_cons h1 (ea_cons h2 ea_nil)) (fun _ => .nil) ⟨a, b, c, d, rfl, ha, hb, hc, hd, rfl⟩
theorem Gd.across {n : Nat} {a b c d : Fr} (ha : Gd n a) (hb : Gd n b) (hc : Gd n c) (hd : Gd n d) : Gd (n + n + (n + n) + 1) (acrossF a b c d) := (ha.mul hd).sub (hb.mul hc)
theorem val_across {n : Nat} {a b c d : Fr} (ha : Gd n a) (hb : Gd n b) (hc : Gd n c) (hd : Gd n d) : val (acrossF a b c d) = val a * val d - val b * val c := by
  unfold acrossF
  rw [val_sub (ha.mul hd) (hb.mul hc), val_mul ha hd, val_mul hb hc]
theorem gd01 : Gd 1 (0, 1) := ⟨⟨by unfold Bd; decide, by unfold Bd; decide⟩, by decide, by decide⟩
noncomputable def crossQ (a b c d e f : Rat) : Rat := (c - a) * (f - b) - (d - b) * (e - a)
theorem side_val {n : Nat} {a b c d e f : Fr} (ha : Gds n [a, b]) (hc : Gds n [c, d]) (he : Gds n [e, f]) : sideF a b c d e f = sgnQ (crossQ (val a) (val b) (val c) (val d) (val e) (val f)) := by
  unfold sideF crossQ
  have g1 := hc.fst.sub ha.fst
  have g2 := hc.snd.sub ha.snd
  have g3 := he.fst.sub ha.fst
  have g4 := he.snd.sub ha.snd
  rw [ord_val (g1.across g2 g3 g4) gd01, val_across g1 g2 g3 g4, val_sub hc.fst ha.fst, val_sub hc.snd ha.snd, val_sub he.fst ha.fst, val_sub he.snd ha.snd]
  have : val (0, 1) = 0 := by show ((0 : Int) : Rat) / ((1 : Int) : Rat) = 0; grind
  rw [this]
  congr 1
  grind
noncomputable def t_step_from (K : Fg) : TS := (tRet (tCB (rTupQ K) (tCons (tLc (RZ.iZipA K (tCons (tVar 0) (tCons (tVar 1) tNil))) (gTup K 2 (gCons (gName 2) (gCons (gName 3) gNil))) tYes (tCall (spP K P_minus) [] E0 (tCons (tVar 3) (tCons (tVar 2) tNil))) [2, 3]) tNil)))
-- slots of step_from: 0 one, 1 other, 2 first, 3 second
theorem ln_step_from : ∀ ds r, P_step ds r → ds.length = 2 := fun ds r h => by obtain ⟨p, q, rfl, _⟩ := h; rfl
theorem zip_get {ps qs : List Fr} {i : Nat} {x : PyData} (h : (List.zipWith (fun x y => PyData.tuple [x, y]) (ps.map fr) (qs.map fr))[i]? = some x) : ∃ p q, ps[i]? = some p ∧ qs[i]? = some q ∧ x = .tuple [fr p, fr q] := by
  rw [List.getElem?_zipWith, List.getElem?_map, List.getElem?_map] at h
  cases hp : ps[i]? with
  | none => rw [hp] at h; cases h
  | some p =>
    cases hq : qs[i]? with
    | none => rw [hp, hq] at h; cases h
    | some q =>
      rw [hp, hq] at h
      cases h
      exact ⟨p, q, rfl, rfl, rfl⟩
theorem un_at2 {G : Gam} {j k : Nat} (h : G[j]? = some .un) (h2 : G[k]? = some .un) : ∀ i e, i ∈ [j, k] → G[i]? = some e → e = .un := fun i e hi g => by
  rcases List.mem_cons.mp hi with rfl | hi
  · rw [h] at g; exact (Option.some.inj g).symm
  · rw [List.mem_singleton.mp hi, h2] at g
    exact (Option.some.inj g).symm
theorem rd_step_from {ds r} (h : P_step ds r) (b : Bag) : SG K (t_step_from K) (frame 4 ds) b (.rt r b) := by
  obtain ⟨ps, qs, rfl, hl, hn, hp, hq, rfl⟩ := h
  refine sg_ret (ev_tupL (ev_lcI (es := (stepF ps qs).map fr) (src_zipT (ea_cons (ev_var rfl) (ea_cons (ev_var rfl) ea_nil)) (by rw [List.length_map, List.length_map, hl])) ?_ (un_at2 rfl rfl) ?_ fun i x y hx hy => ?_))
  · simp [stepF]
  · simp; omega
  · obtain ⟨p, q, h1, h2, rfl⟩ := zip_get hx
    refine ⟨_, tgt_tup (is := [2, 3]) rfl rfl, ev_is (ev_minusG (ev_var rfl) (ev_var rfl) (hq q (List.mem_of_getElem? h2)) (hp p (List.mem_of_getElem? h1))) ?_⟩
    unfold stepF at hy
    rw [List.getElem?_map, List.getElem?_zipWith, h1, h2] at hy
    exact Option.some.inj hy
noncomputable def t_across (K : Fg) : TS := (tRet (tCall (spP K P_minus) [] E0 (tCons (tCall (spP K P_times) [] E0 (tCons (tOp (rIx K) (tVar 0) (tC (V.int 0))) (tCons (tOp (rIx K) (tVar 1) (tC (V.int 1))) tNil))) (tCons (tCall (spP K P_times) [] E0 (tCons (tOp (rIx K) (tVar 0) (tC (V.int 1))) (tCons (tOp (rIx K) (tVar 1) (tC (V.int 0))) tNil))) tNil))))
-- slots of across: 0 one, 1 other
theorem ln_across : ∀ ds r, P_across ds r → ds.length = 2 := fun ds r h => by obtain ⟨_, _, _, _, rfl, _⟩ := h; rfl
theorem rd_across {ds r} (h : P_across ds r) (b : Bag) : SG K (t_across K) (frame 2 ds) b (.rt r b) := by
  obtain ⟨p, q, u, v, rfl, hp, hq, hu, hv, rfl⟩ := h
  exact sg_ret (ev_minusG (ev_timesG (ev_ixT (ev_var rfl) ev_int rfl) (ev_ixT (ev_var rfl) ev_int rfl) (hp.mono (by decide)) (hv.mono (by decide))) (ev_timesG (ev_ixT (ev_var rfl) ev_int rfl) (ev_ixT (ev_var rfl) ev_int rfl) (hq.mono (by decide)) (hu.mono (by decide))) ((hp.mul hv).mono (by decide)) ((hq.mul hu).mono (by decide)))
noncomputable def t_side_of (K : Fg) : TS := (tRet (tCall (spP K P_order) [] E0 (tCons (tCall (spP K P_across) [] E0 (tCons (tCall (spP K P_step) [] E0 (tCons (tVar 0) (tCons (tVar 1) tNil))) (tCons (tCall (spP K P_step) [] E0 (tCons (tVar 0) (tCons (tVar 2) tNil))) tNil))) (tCons (tTup (tCons (tC (V.int 0)) (tCons (tC (V.int 1)) tNil))) tNil))))
-- slots of side_of: 0 start, 1 end, 2 spot
theorem ln_side_of : ∀ ds r, P_side ds r → ds.length = 3 := fun ds r h => by obtain ⟨_, _, _, _, _, _, rfl, _⟩ := h; rfl
theorem rd_side_of {ds r} (h : P_side ds r) (b : Bag) : SG K (t_side_of K) (frame 3 ds) b (.rt r b) := by
  obtain ⟨p, q, u, v, x, y, rfl, hp, hq, hu, hv, hx, hy, rfl⟩ := h
  have s1 : ∀ {a b c d : Fr}, Gd 900 a → Gd 900 b → Gd 900 c → Gd 900 d → Gds 3900 [a, b] ∧ Gd 1900 (subF c a) ∧ Gd 1900 (subF d b) := fun ha hb hc hd => ⟨Gds.two (ha.mono (by decide)) (hb.mono (by decide)), (hc.sub ha).mono (by decide), (hd.sub hb).mono (by decide)⟩
  obtain ⟨a1, a2, a3⟩ := s1 hp hq hu hv
  obtain ⟨_, b2, b3⟩ := s1 hp hq hx hy
  refine sg_ret (ev_order (ev_across (ev_step (ps := [p, q]) (qs := [u, v]) (ev_var rfl) (ev_var rfl) rfl (by show 2 ≤ 1000; decide) a1 (Gds.two (hu.mono (by decide)) (hv.mono (by decide)))) (ev_step (ps := [p, q]) (qs := [x, y]) (ev_var rfl) (ev_var rfl) rfl (by show 2 ≤ 1000; decide) a1 (Gds.two (hx.mono (by decide)) (hy.mono (by decide)))) a2 a3 b2 b3) (ev_tup (ea_cons ev_int (ea_cons ev_int ea_nil)) (by show 2 ≤ 16000000; decide)) ((a2.across a3 b2 b3).sz.mono (by decide)) (gd01.sz.mono (by decide)))
/-! ### the law's own -/
noncomputable abbrev I3 := Int × Int × Int
noncomputable abbrev i3 (t : I3) : PyData := .tuple [.int t.1, .int t.2.1, .int t.2.2]
noncomputable def B3 (n : Nat) (t : I3) : Prop := Bd n t.1 ∧ Bd n t.2.1 ∧ Bd n t.2.2
noncomputable def homF : List Fr → I3
  | [p] => (p.1, 0, p.2)
  | [p, q] => (p.1 * q.2, q.1 * p.2, p.2 * q.2)
  | _ => (0, 0, 0)
noncomputable def P_hom : List PyData → PyData → Prop := fun ds r => ∃ ps : List Fr, ds = [frs ps] ∧ (ps.length = 1 ∨ ps.length = 2) ∧ (∀ p ∈ ps, Sz 2000 p) ∧ r = i3 (homF ps)
noncomputable def detF (a b c : I3) : Int := a.1 * (b.2.1 * c.2.2 - b.2.2 * c.2.1) - a.2.1 * (b.1 * c.2.2 - b.2.2 * c.1) + a.2.2 * (b.1 * c.2.1 - b.2.1 * c.1)
noncomputable def P_det : List PyData → PyData → Prop := fun ds r => ∃ a b c : I3, ds = [i3 a, i3 b, i3 c] ∧ B3 4000 a ∧ B3 4000 b ∧ B3 4000 c ∧ r = .int (detF a b c)
noncomputable def P_turn : List PyData → PyData → Prop := fun ds r => ∃ ps qs us : List Fr, ds = [frs ps, frs qs, frs us] ∧ (ps.length = 1 ∨ ps.length = 2) ∧ (qs.length = 1 ∨ qs.length = 2) ∧ (us.length = 1 ∨ us.length = 2) ∧ (∀ p ∈ ps, Sz 2000 p) ∧ (∀ p ∈ qs, Sz 2000 p) ∧ (∀ p ∈ us, Sz 2000 p) ∧ r = .int (sgn (detF (homF ps) (homF qs) (homF us)))
theorem one_of {ps : List Fr} (h : ps.length = 1) : ∃ p, ps = [p] := by
  match ps, h with
  | [p], _ => exact ⟨p, rfl⟩
theorem two_of {ps : List Fr} (h : ps.length = 2) : ∃ p q, ps = [p, q] := by
  match ps, h with
  | [p, q], _ => exact ⟨p, q, rfl⟩
theorem hom_b3 {ps : List Fr} (hl : ps.length = 1 ∨ ps.length = 2) (h : ∀ p ∈ ps, Sz 2000 p) : B3 4000 (homF ps) := by
  rcases hl with hl | hl
  · obtain ⟨p, rfl⟩ := one_of hl
    have hp := h p (List.mem_cons_self ..)
    exact ⟨hp.1.mono (by decide), Nat.two_pow_pos _, hp.2.mono (by decide)⟩
  · obtain ⟨p, q, rfl⟩ := two_of hl
    have hp := h p (List.mem_cons_self ..)
    have hq := h q (List.mem_cons_of_mem _ (List.mem_cons_self ..))
    exact ⟨hp.1.mul hq.2, hq.1.mul hp.2, hp.2.mul hq.2⟩
theorem ev_hom {ps : List Fr} (h1 : EvG K ta G s (frs ps) s1) (hl : ps.length = 1 ∨ ps.length = 2) (hp : ∀ p ∈ ps, Sz 2000 p) : EvG K (tCall (spP K P_hom) [] E (tCons ta tNil)) G s (i3 (homF ps)) s1 :=
  ev_call (ea_cons h1 ea_nil) (fun _ => .nil) ⟨ps, rfl, hl, hp, rfl⟩
theorem ev_det {a b c : I3} (h1 : EvG K ta G s (i3 a) s1) (h2 : EvG K tb G s1 (i3 b) s2) (h3 : EvG K tc G s2 (i3 c) s3) (ha : B3 4000 a) (hb : B3 4000 b) (hc : B3 4000 c) : EvG K (tCall (spP K P_det) [] E (tCons ta (tCons tb (tCons tc tNil)))) G s (.int (detF a b c)) s3 :=
  ev_call (ea_cons h1 (ea_cons h2 (ea_cons h3 ea_nil))) (fun _ => .nil) ⟨a, b, c, rfl, ha, hb, hc, rfl⟩
noncomputable def t__law_hom (K : Fg) : TS := (tSeq (tIfS (tTest (tOp rEq (tCB (rLenQ K) (tCons (tVar 0) tNil)) (tC (V.int 1)))) (tRet (tTup (tCons (tOp (rIx K) (tOp (rIx K) (tVar 0) (tC (V.int 0))) (tC (V.int 0))) (tCons (tC (V.int 0)) (tCons (tOp (rIx K) (tOp (rIx K) (tVar 0) (tC (V.int 0))) (tC (V.int 1))) tNil))))) tNext)
  (tRet (tTup (tCons (tOp (rI CMulW fun i j => V.int (i * j)) (tOp (rIx K) (tOp (rIx K) (tVar 0) (tC (V.int 0))) (tC (V.int 0))) (tOp (rIx K) (tOp (rIx K) (tVar 0) (tC (V.int 1))) (tC (V.int 1)))) (tCons (tOp (rI CMulW fun i j => V.int (i * j)) (tOp (rIx K) (tOp (rIx K) (tVar 0) (tC (V.int 1))) (tC (V.int 0))) (tOp (rIx K) (tOp (rIx K) (tVar 0) (tC (V.int 0))) (tC (V.int 1)))) (tCons (tOp (rI CMulW fun i j => V.int (i * j)) (tOp (rIx K) (tOp (rIx K) (tVar 0) (tC (V.int 0))) (tC (V.int 1))) (tOp (rIx K) (tOp (rIx K) (tVar 0) (tC (V.int 1))) (tC (V.int 1)))) tNil))))))
-- slots of _law_hom: 0 _law_spot_here
theorem ln__law_hom : ∀ ds r, P_hom ds r → ds.length = 1 := fun ds r h => by obtain ⟨_, rfl, _⟩ := h; rfl
theorem rd__law_hom {ds r} (h : P_hom ds r) (b : Bag) : SG K (t__law_hom K) (frame 1 ds) b (.rt r b) := by
  obtain ⟨ps, rfl, hl, hp, rfl⟩ := h
  rcases hl with hl | hl
  · obtain ⟨p, rfl⟩ := one_of hl
    exact sg_seqR (sg_ifT (et_is (et_test (ev_eqI (ev_lenT (ev_var rfl)) ev_int)) rfl) (sg_ret (ev_tup (ea_cons (ev_fst (p := p) (ev_ixT (ev_var rfl) ev_int rfl)) (ea_cons ev_int (ea_cons (ev_snd (p := p) (ev_ixT (ev_var rfl) ev_int rfl)) ea_nil))) (by show 3 ≤ 16000000; decide))))
  · obtain ⟨p, q, rfl⟩ := two_of hl
    have hp1 := hp p (List.mem_cons_self ..)
    have hq1 := hp q (List.mem_cons_of_mem _ (List.mem_cons_self ..))
    exact sg_seq (sg_ifF (et_is (et_test (ev_eqI (ev_lenT (ev_var rfl)) ev_int)) rfl) sg_next) (sg_ret (ev_tup (ea_cons (ev_mul (ev_fst (ev_ixT (ev_var rfl) ev_int rfl)) (ev_snd (ev_ixT (ev_var rfl) ev_int rfl)) (hp1.1.cm hq1.2 (by decide))) (ea_cons (ev_mul (ev_fst (ev_ixT (ev_var rfl) ev_int rfl)) (ev_snd (ev_ixT (ev_var rfl) ev_int rfl)) (hq1.1.cm hp1.2 (by decide))) (ea_cons (ev_mul (ev_snd (ev_ixT (ev_var rfl) ev_int rfl)) (ev_snd (ev_ixT (ev_var rfl) ev_int rfl)) (hp1.2.cm hq1.2 (by decide))) ea_nil))) (by show 3 ≤ 16000000; decide)))
noncomputable def t__law_det (K : Fg) : TS := (tSeq (tAsg (tOp (rI CMulW fun i j => V.int (i * j)) (tOp (rIx K) (tVar 0) (tC (V.int 0))) (tOp (rI0 fun i j => V.int (i - j)) (tOp (rI CMulW fun i j => V.int (i * j)) (tOp (rIx K) (tVar 1) (tC (V.int 1))) (tOp (rIx K) (tVar 2) (tC (V.int 2)))) (tOp (rI CMulW fun i j => V.int (i * j)) (tOp (rIx K) (tVar 1) (tC (V.int 2))) (tOp (rIx K) (tVar 2) (tC (V.int 1)))))) (gName 3))
  (tSeq (tAsg (tOp (rI CMulW fun i j => V.int (i * j)) (tOp (rIx K) (tVar 0) (tC (V.int 1))) (tOp (rI0 fun i j => V.int (i - j)) (tOp (rI CMulW fun i j => V.int (i * j)) (tOp (rIx K) (tVar 1) (tC (V.int 0))) (tOp (rIx K) (tVar 2) (tC (V.int 2)))) (tOp (rI CMulW fun i j => V.int (i * j)) (tOp (rIx K) (tVar 1) (tC (V.int 2))) (tOp (rIx K) (tVar 2) (tC (V.int 0)))))) (gName 4))
  (tRet (tOp (rI0 fun i j => V.int (i + j)) (tOp (rI0 fun i j => V.int (i - j)) (tVar 3) (tVar 4)) (tOp (rI CMulW fun i j => V.int (i * j)) (tOp (rIx K) (tVar 0) (tC (V.int 2))) (tOp (rI0 fun i j => V.int (i - j)) (tOp (rI CMulW fun i j => V.int (i * j)) (tOp (rIx K) (tVar 1) (tC (V.int 0))) (tOp (rIx K) (tVar 2) (tC (V.int 1)))) (tOp (rI CMulW fun i j => V.int (i * j)) (tOp (rIx K) (tVar 1) (tC (V.int 1))) (tOp (rIx K) (tVar 2) (tC (V.int 0))))))))))
-- slots of _law_det: 0 _law_one, 1 _law_two, 2 _law_three, 3 _law_first, 4 _law_second
theorem ln__law_det : ∀ ds r, P_det ds r → ds.length = 3 := fun ds r h => by obtain ⟨_, _, _, rfl, _⟩ := h; rfl
theorem ev_i0 {t : I3} (h : EvG K te G s (i3 t) s') : EvG K (tOp (rIx K) te (tC (.int 0))) G s (.int t.1) s' := ev_ixT h ev_int rfl
theorem ev_i1 {t : I3} (h : EvG K te G s (i3 t) s') : EvG K (tOp (rIx K) te (tC (.int 1))) G s (.int t.2.1) s' := ev_ixT h ev_int rfl
theorem ev_i2 {t : I3} (h : EvG K te G s (i3 t) s') : EvG K (tOp (rIx K) te (tC (.int 2))) G s (.int t.2.2) s' := ev_ixT h ev_int rfl
theorem rd__law_det {ds r} (h : P_det ds r) (b : Bag) : SG K (t__law_det K) (frame 5 ds) b (.rt r b) := by
  obtain ⟨x, y, z, rfl, ⟨x1, x2, x3⟩, ⟨y1, y2, y3⟩, ⟨z1, z2, z3⟩, rfl⟩ := h
  have m : ∀ {a b : Int}, Bd 4000 a → Bd 4000 b → CMulW a b := fun ha hb => ha.cm hb (by decide)
  have m2 : ∀ {a b c d e : Int}, Bd 4000 a → Bd 4000 b → Bd 4000 c → Bd 4000 d → Bd 4000 e → CMulW a (b * c - d * e) := fun ha hb hc hd he => ha.cm ((hb.mul hc).sub (hd.mul he)) (by decide)
  exact sg_seq (sg_asg (ev_mul (ev_i0 (ev_var rfl)) (ev_sub (ev_mul (ev_i1 (ev_var rfl)) (ev_i2 (ev_var rfl)) (m y2 z3)) (ev_mul (ev_i2 (ev_var rfl)) (ev_i1 (ev_var rfl)) (m y3 z2))) (m2 x1 y2 z3 y3 z2)))
    (sg_seq (sg_asg (ev_mul (ev_i1 (ev_var rfl)) (ev_sub (ev_mul (ev_i0 (ev_var rfl)) (ev_i2 (ev_var rfl)) (m y1 z3)) (ev_mul (ev_i2 (ev_var rfl)) (ev_i0 (ev_var rfl)) (m y3 z1))) (m2 x2 y1 z3 y3 z1)))
    (sg_ret (ev_add (ev_sub (ev_var rfl) (ev_var rfl)) (ev_mul (ev_i2 (ev_var rfl)) (ev_sub (ev_mul (ev_i0 (ev_var rfl)) (ev_i1 (ev_var rfl)) (m y1 z2)) (ev_mul (ev_i1 (ev_var rfl)) (ev_i0 (ev_var rfl)) (m y2 z1))) (m2 x3 y1 z2 y2 z1)))))
noncomputable def t__law_turn (K : Fg) : TS := (tRet (tCall (spP K P_sign) [] E0 (tCons (tCall (spP K P_det) [] E0 (tCons (tCall (spP K P_hom) [] E0 (tCons (tVar 0) tNil)) (tCons (tCall (spP K P_hom) [] E0 (tCons (tVar 1) tNil)) (tCons (tCall (spP K P_hom) [] E0 (tCons (tVar 2) tNil)) tNil)))) tNil)))
-- slots of _law_turn: 0 _law_one, 1 _law_two, 2 _law_three
theorem ln__law_turn : ∀ ds r, P_turn ds r → ds.length = 3 := fun ds r h => by obtain ⟨_, _, _, rfl, _⟩ := h; rfl
theorem rd__law_turn {ds r} (h : P_turn ds r) (b : Bag) : SG K (t__law_turn K) (frame 3 ds) b (.rt r b) := by
  obtain ⟨ps, qs, us, rfl, l1, l2, l3, hp, hq, hu, rfl⟩ := h
  exact sg_ret (ev_sign (ev_det (ev_hom (ev_var rfl) l1 hp) (ev_hom (ev_var rfl) l2 hq) (ev_hom (ev_var rfl) l3 hu) (hom_b3 l1 hp) (hom_b3 l2 hq) (hom_b3 l3 hu)))
/-- the law's turn, as a number -/
theorem turn_val {n : Nat} {a b c d e f : Fr} (ha : Gds n [a, b]) (hc : Gds n [c, d]) (he : Gds n [e, f]) : sgn (detF (homF [a, b]) (homF [c, d]) (homF [e, f])) = sgnQ (crossQ (val a) (val b) (val c) (val d) (val e) (val f)) := by
  have q1 := ha.fst.qpos
  have q2 := ha.snd.qpos
  have q3 := hc.fst.qpos
  have q4 := hc.snd.qpos
  have q5 := he.fst.qpos
  have q6 := he.snd.qpos
  have z1 := ha.fst.qne
  have z2 := ha.snd.qne
  have z3 := hc.fst.qne
  have z4 := hc.snd.qne
  have z5 := he.fst.qne
  have z6 := he.snd.qne
  rw [sgn_int]
  have key : ((detF (homF [a, b]) (homF [c, d]) (homF [e, f]) : Int) : Rat) = ((a.2 : Rat) * b.2 * (c.2 * d.2) * (e.2 * f.2)) * crossQ (val a) (val b) (val c) (val d) (val e) (val f) := by
    unfold detF homF crossQ
    simp only [Rat.intCast_sub, Rat.intCast_mul, Rat.intCast_add]
    have a1 : (a.1 : Rat) = val a * a.2 := by unfold val; grind
    have a2 : (b.1 : Rat) = val b * b.2 := by unfold val; grind
    have a3 : (c.1 : Rat) = val c * c.2 := by unfold val; grind
    have a4 : (d.1 : Rat) = val d * d.2 := by unfold val; grind
    have a5 : (e.1 : Rat) = val e * e.2 := by unfold val; grind
    have a6 : (f.1 : Rat) = val f * f.2 := by unfold val; grind
    rw [a1, a2, a3, a4, a5, a6]
    generalize val a = A
    generalize val b = B
    generalize val c = C
    generalize val d = D
    generalize val e = E'
    generalize val f = F'
    generalize (a.2 : Rat) = u1
    generalize (b.2 : Rat) = u2
    generalize (c.2 : Rat) = u3
    generalize (d.2 : Rat) = u4
    generalize (e.2 : Rat) = u5
    generalize (f.2 : Rat) = u6
    grind
  rw [key, sgnQ_mul (Rat.mul_pos (Rat.mul_pos (Rat.mul_pos q1 q2) (Rat.mul_pos q3 q4)) (Rat.mul_pos q5 q6))]
noncomputable def alongF (k : Fr) (ps qs : List Fr) : List Fr := List.zipWith (fun p q => addF p (mulF k (subF q p))) ps qs
noncomputable def P_along : List PyData → PyData → Prop := fun ds r => ∃ (ps qs : List Fr) (k : Fr), ds = [frs ps, frs qs, fr k] ∧ ps.length = qs.length ∧ ps.length ≤ 1000 ∧ Gds 400 ps ∧ Gds 400 qs ∧ Gd 400 k ∧ r = frs (alongF k ps qs)
noncomputable def t__law_along (K : Fg) : TS := (tSeq (tAsg (tLc (iRng1 (tCons (tCB (rLenQ K) (tCons (tVar 0) tNil)) tNil)) (gName 4) tYes (tCall (spP K P_lsub) [] E0 (tCons (tOp (rIx K) (tVar 1) (tVar 4)) (tCons (tOp (rIx K) (tVar 0) (tVar 4)) tNil))) [4]) (gName 3))
  (tRet (tCB (rTupQ K) (tCons (tLc (iRng1 (tCons (tCB (rLenQ K) (tCons (tVar 0) tNil)) tNil)) (gName 4) tYes (tCall (spP K P_add) [] E0 (tCons (tOp (rIx K) (tVar 0) (tVar 4)) (tCons (tCall (spP K P_lmul) [] E0 (tCons (tVar 2) (tCons (tOp (rIx K) (tVar 3) (tVar 4)) tNil))) tNil))) [4]) tNil))))
-- slots of _law_along: 0 _law_one, 1 _law_two, 2 _law_share, 3 _law_steps, 4 _law_at
theorem ln__law_along : ∀ ds r, P_along ds r → ds.length = 3 := fun ds r h => by obtain ⟨_, _, _, rfl, _⟩ := h; rfl
theorem rng_get {n i : Nat} {x : PyData} (h : (rngD 0 ((n : Int)).toNat)[i]? = some x) : i < n ∧ x = .int (i : Int) := by
  have hi := (List.getElem?_eq_some_iff.mp h).1
  rw [rngD_len, Int.toNat_natCast] at hi
  rw [rngD_get (by rw [Int.toNat_natCast]; exact hi), Int.zero_add] at h
  exact ⟨hi, (Option.some.inj h).symm⟩
theorem rd__law_along {ds r} (h : P_along ds r) (b : Bag) : SG K (t__law_along K) (frame 5 ds) b (.rt r b) := by
  obtain ⟨ps, qs, k, rfl, hl, hn, hp, hq, hk, rfl⟩ := h
  have hlen : (((ps.map fr).length : Int)).toNat = ps.length := by simp
  have src : ∀ {G : Gam}, G[0]? = some (.d (frs ps)) → Src K (iRng1 (tCons (tCB (rLenQ K) (tCons (tVar 0) tNil)) tNil)) G b (rngD 0 (((ps.map fr).length : Int)).toNat) b := fun h => src_rng1 (ea_cons (ev_lenT (ev_var h)) ea_nil) ⟨by rw [List.length_map]; omega, by rw [List.length_map]; omega⟩
  have rg : ∀ {i : Nat} {x : PyData}, (rngD 0 (((ps.map fr).length : Int)).toNat)[i]? = some x → i < ps.length ∧ x = .int (i : Int) := fun h => by
    have := rng_get h
    rw [List.length_map] at this
    exact this
  refine sg_seq (sg_asg (ev_lcI (es := (stepF ps qs).map fr) (src rfl) ?_ (un_at rfl) ?_ fun i x y hx hy => ?_)) (sg_ret (ev_tupL (ev_lcI (es := (alongF k ps qs).map fr) (src rfl) ?_ (un_at rfl) ?_ fun i x y hx hy => ?_)))
  · rw [rngD_len, hlen]; simp [stepF]; omega
  · rw [rngD_len, hlen]; omega
  · obtain ⟨hi, rfl⟩ := rg hx
    have e1 : ps[i]? = some ps[i] := List.getElem?_eq_getElem hi
    have e2 : qs[i]? = some (qs[i]'(by omega)) := List.getElem?_eq_getElem _
    refine ⟨_, tgt_name, ev_is (ev_lsub (ev_ixT (ev_var rfl) (ev_var rfl) (atI_fr e2)) (ev_ixT (ev_var rfl) (ev_var rfl) (atI_fr e1)) ((hq _ (List.mem_of_getElem? e2)).sz.mono (by decide)) ((hp _ (List.mem_of_getElem? e1)).sz.mono (by decide))) ?_⟩
    unfold stepF at hy
    rw [List.getElem?_map, List.getElem?_zipWith, e1, e2] at hy
    exact Option.some.inj hy
  · rw [rngD_len, hlen]; simp [alongF]; omega
  · rw [rngD_len, hlen]; omega
  · obtain ⟨hi, rfl⟩ := rg hx
    have e1 : ps[i]? = some ps[i] := List.getElem?_eq_getElem hi
    have e2 : qs[i]? = some (qs[i]'(by omega)) := List.getElem?_eq_getElem _
    have e3 : (stepF ps qs)[i]? = some (subF (qs[i]'(by omega)) ps[i]) := by unfold stepF; rw [List.getElem?_zipWith, e1, e2]
    have g1 := hp _ (List.mem_of_getElem? e1)
    have g2 := hq _ (List.mem_of_getElem? e2)
    have g3 := g2.sub g1
    refine ⟨_, tgt_name, ev_is (ev_fadd (ev_ixT (ev_var rfl) (ev_var rfl) (atI_fr e1)) (ev_lmul (ev_var rfl) (ev_ixL (ev_var rfl) (ev_var rfl) (atI_fr e3)) (hk.sz.mono (by decide)) (g3.sz.mono (by decide))) (g1.sz.mono (by decide)) ((hk.mul g3).sz.mono (by decide))) ?_⟩
    unfold alongF at hy
    rw [List.getElem?_map, List.getElem?_zipWith, e1, e2] at hy
    exact Option.some.inj hy
end

end
section

theorem eqv_fr (p q : Fr) : PyData.eqv (fr p) (fr q) = decide (p = q) := qt_of (by simp (disch := with_unfolding_all
  show (p.1 == q.1 && (p.2 == q.2 && true)) = _
  rw [Bool.and_true]
  by_cases h : p = q
  · subst h; simp
  · rw [decide_eq_false h]
    cases h1 : (p.1 == q.1) with
    | false => rfl
    | true =>
      cases h2 : (p.2 == q.2) with
      | false => rfl
      | true => exact absurd (Prod.ext (eq_of_beq h1) (eq_of_beq h2)) h
  ) only [↓qt_eq])
theorem eqv_frs : ∀ ps qs : List Fr, PyData.eqvAll (ps.map fr) (qs.map fr) = decide (ps = qs)
  | [], [] => by simp [PyData.eqvAll]
  | [], q :: qs => by simp [PyData.eqvAll]
  | p :: ps, [] => by simp [PyData.eqvAll]
  | p :: ps, q :: qs => by
    show (PyData.eqv (fr p) (fr q) && PyData.eqvAll (ps.map fr) (qs.map fr)) = _
    rw [eqv_fr, eqv_frs ps qs]
    by_cases h1 : p = q <;> by_cases h2 : ps = qs <;> simp [h1, h2]
section
variable {K : Fg} {cs : Cs} {W : WX} {G : Gam} {s s1 s2 s3 s4 s' : Bag} {ta tb tc td te : TE} {x y : PyData} {E : XK} {E2 : St → XK}
-- slots of gone: 0 spot, 1 step, 2 many, 3 first, 4 second
/-! crossing -/
-- slots of crossing: 0 start, 1 end, 2 other_start, 3 other_end, 4 step, 5 other_step, 6 span, 7 many
-- slots of told09: 0 _law_one, 1 _law_two, 2 _law_three, 3 _law_four, 4 why
/-! the law's own -/
-- slots of _law_mid: 0 _law_one, 1 _law_two, 2 _law_at
-- slots of _law_lowest: 0 _law_one, 1 _law_number
-- slots of _law_right: 0 _law_found, 1 _law_one, 2 _law_two, 3 _law_three, 4 _law_four, 5 _law_first, 6 _law_second
end

end
section

/-! ### lists or tuples -/
noncomputable def itemsOf : PyData → Option (List PyData)
  | .list xs => some xs
  | .tuple xs => some xs
  | _ => none
theorem items_cases {x : PyData} {xs : List PyData} (h : itemsOf x = some xs) : x = .list xs ∨ x = .tuple xs := by
  cases x <;> first | cases h | skip
  · exact .inl rfl
  · exact .inr rfl
section
variable {K : Fg} {cs : Cs} {gs : Gs} {W : WX} {G : Gam} {s s1 s2 s3 s' : Bag} {ta tb tc te : TE} {x y : PyData} {E : XK} {xs : List PyData}
/-! ### maps -/
-- slots of map_of: 0 rows, 1 row, 2 one
end

end
section

theorem cutD_init (xs : List PyData) : cutD xs none (some (-1)) = xs.dropLast := qt_of (by simp (disch := with_unfolding_all
  unfold cutD
  rw [HT.sIx_none, List.drop_zero, Nat.sub_zero, List.dropLast_eq_take]
  congr 1
  have e : HT.sIx xs.length xs.length (some (-1)) = ((-1 : Int) + (xs.length : Int)).toNat := by
    show (if (-1 : Int) < 0 then ((-1 : Int) + (xs.length : Int)).toNat else min (-1 : Int).toNat xs.length) = _
    rw [if_pos (by decide)]
  rw [e]
  omega
  ) only [↓qt_eq])
section
variable {K : Fg} {cs : Cs} {gs : Gs} {W : WX} {G : Gam} {s s1 s2 s3 s' : Bag} {ta tb tc te : TE} {x y : PyData} {E : XK} {xs : List PyData}
-- slots of still: 0 room
-- slots of straightened: 0 way, 1 row
/-! ### drawn maps -/
-- slots of _law_whole_part: 0 _law_bag_here
-- slots of _law_entry: 0 _law_bag_here
noncomputable def drawFr (F : Bag → Fr) (N : Bag → Bag) (n : Nat) (s : Bag) : List Fr := (List.range n).map fun i => F (itB N i s)
theorem drawn_fr (F : Bag → Fr) (N : Bag → Bag) (n : Nat) (s : Bag) : drawn (fun s => fr (F s)) N n s = (drawFr F N n s).map fr := by
  unfold drawn drawFr
  rw [List.map_map]
  rfl
theorem drawFr_gd {k : Nat} {F : Bag → Fr} {N : Bag → Bag} (h : ∀ s, Gd k (F s)) (n : Nat) (s : Bag) : Gds k (drawFr F N n s) := fun p hp => by
  unfold drawFr at hp
  obtain ⟨i, _, rfl⟩ := List.mem_map.mp hp
  exact h _
theorem drawFr_len (F : Bag → Fr) (N : Bag → Bag) (n : Nat) (s : Bag) : (drawFr F N n s).length = n := by simp [drawFr]
theorem itB_ok {N : Bag → Bag} (h : ∀ {s : Bag}, s.ok → (N s).ok) {s : Bag} (hs : s.ok) : ∀ n, (itB N n s).ok
  | 0 => hs
  | n + 1 => h (itB_ok h hs n)
-- slots of _law_map: 0 _law_bag_here, 1 _law_start, 2 _law_goal, 3 _law_row, 4 _law_at
-- slots of told15: 0 _law_rows, 1 why
end

end
end U
end
section
namespace U
open PySem PyProof.Rows L2 Evl
section
variable {K : Fg} {cs : Cs} {gs : Gs} {W : WX} {G GI G1 : Gam} {s s1 s2 s3 s' : Bag} {ta tb tc te : TE} {x y : PyData} {E : XK} {xs : List PyData}
end
end U


end
section
namespace U.N
open PySem PyProof.Rows L2 Evl
section
variable {K : Fg} {cs : Cs} {W : WX} {G G' G1 G2 : Gam} {ta tb tc te : TE} {t u : TT} {φ : PyData → Prop} {ε : Xw → Prop} {ψ : Bool → Prop} {α : List PyData → Prop} {ι : List PyData → Prop} {χ : Own → Prop} {ω : Option Int → Prop}
variable {Wd : Addr → Prop} {B : Option (Addr × Addr)} {ad : Nat → Addr} {H0 H H1 H2 : Hp} {σ : St}
/-! ### items -/
/-- an item of a list or a tuple -/
theorem ew_ix (h : EW K cs W ta G (fun x => ∃ xs, itemsOf x = some xs ∧ EW K cs W tb G (fun y => ∃ j, y = .int j ∧ ∃ z, atI xs j = some z ∧ φ z) ε) ε) : EW K cs W (tOp (rIx K) ta tb) G φ ε :=
  ew_op (ew_mono h fun x ⟨xs, e, h⟩ => ew_mono h fun y ⟨j, e2, z, hz, p⟩ => fun Wd B ad H0 H σ v w S d1 d2 Q q => by
    subst e2
    cases d2
    rcases items_cases e with rfl | rfl
    · cases d1 with
      | lst g t =>
        obtain ⟨v, g1, g2⟩ := dpa_atI t hz
        exact .inl ⟨_, _, j, v, rfl, rfl, ex_l less_ex g, g1, q _ p _ H S Xb.refl g2⟩
    · cases d1 with
      | tup g t =>
        obtain ⟨v, g1, g2⟩ := dpa_atI t hz
        exact .inr (.inl ⟨_, _, j, v, rfl, rfl, ex_t less_ex g, g1, q _ p _ H S Xb.refl g2⟩))
/-- an item of a list of one's own -/
theorem ew_ixO {xs : List PyData} {i : Nat} (hi : G[i]? = some (.ow (ol xs))) (h : EW K cs W tb G (fun y => ∃ j, y = .int j ∧ ∃ z, atI xs j = some z ∧ φ z) ε) : EW K cs W (tOp (rIx K) (tVar i) tb) G φ ε := fun Wd B ad H0 H σ S Q q x => by
  obtain ⟨o, g1, rfl, _⟩ := S.at_ i _ hi
  refine ⟨_, g1, h Wd B ad H0 H σ S _ (fun y ⟨j, e, z, hz, p⟩ w H2 S2 e2 d2 => ?_) x⟩
  subst e
  cases d2
  obtain ⟨_, _, _, vs, g3, g4⟩ := S2.at_ i _ hi
  have g3 : H2 (ad i) = some (.lst vs) := g3
  have g4 : DpAll K _ vs xs := g4
  obtain ⟨v, g5, g6⟩ := dpa_atI g4 hz
  exact .inl ⟨_, _, j, v, rfl, rfl, sq_of g3, g5, q _ p _ H2 S2 e2 g6⟩
/-! ### tests -/
theorem tw_test (h : EW K cs W te G (fun x => ∃ b, x = .bool b ∧ ψ b) ε) : TW K cs W (tTest te) G ψ ε := fun Wd B ad H0 H σ S Q q x => h Wd B ad H0 H σ S _ (fun y ⟨b, e, p⟩ v H1 S1 e1 d1 => by
  subst e
  cases d1
  exact ⟨b, rfl, q b p H1 S1 e1⟩) x
theorem tw_B (h : EW K cs W te G (fun x => ∃ b, x = .bool b ∧ ψ b) ε) : TW K cs W (tB te) G ψ ε := tw_test h
theorem tw_yes (h : ψ true) : TW K cs W tYes G ψ ε := fun Wd B ad H0 H σ S Q q x => q true h H S Xb.refl
theorem tw_not (h : TW K cs W t G (fun b => ψ (!b)) ε) : TW K cs W (tNot t) G ψ ε := fun Wd B ad H0 H σ S Q q x => h Wd B ad H0 H σ S _ (fun b p => q (!b) p) x
theorem tw_and (h : TW K cs W t G (fun b => Cnd b (TW K cs W u G ψ ε) (ψ false)) ε) : TW K cs W (tAnd t u) G ψ ε := fun Wd B ad H0 H σ S Q q x => h Wd B ad H0 H σ S _ (fun b p H1 S1 e1 => by
  cases b with
  | true => exact iteT (p.1 rfl Wd B ad H0 H1 σ S1 _ (fun b p H2 S2 e2 => q b p H2 S2 (e1.trans e2)) (x.go e1))
  | false => exact iteF (q _ (p.2 rfl) H1 S1 e1)) x
theorem tw_or (h : TW K cs W t G (fun b => Cnd b (ψ true) (TW K cs W u G ψ ε)) ε) : TW K cs W (tOr t u) G ψ ε := fun Wd B ad H0 H σ S Q q x => h Wd B ad H0 H σ S _ (fun b p H1 S1 e1 => by
  cases b with
  | false => exact iteF (p.2 rfl Wd B ad H0 H1 σ S1 _ (fun b p H2 S2 e2 => q b p H2 S2 (e1.trans e2)) (x.go e1))
  | true => exact iteT (q _ (p.1 rfl) H1 S1 e1)) x
theorem ew_andV (h : EW K cs W ta G (fun x => ∃ b, x = .bool b ∧ Cnd b (EW K cs W tb G φ ε) (φ (.bool false))) ε) : EW K cs W (tAndV ta tb) G φ ε := fun Wd B ad H0 H σ S Q q x => h Wd B ad H0 H σ S _ (fun y ⟨b, e, p⟩ v H1 S1 e1 d1 => by
  subst e
  cases d1
  refine ⟨b, rfl, ?_⟩
  cases b with
  | true => exact iteT (p.1 rfl Wd B ad H0 H1 σ S1 _ (fun b p v H2 S2 e2 d2 => q b p v H2 S2 (e1.trans e2) d2) (x.go e1))
  | false => exact iteF (q _ (p.2 rfl) _ H1 S1 e1 (.bl _))) x
theorem ew_if (h : TW K cs W t G (fun b => Cnd b (EW K cs W ta G φ ε) (EW K cs W tb G φ ε)) ε) : EW K cs W (tIf t ta tb) G φ ε := fun Wd B ad H0 H σ S Q q x => h Wd B ad H0 H σ S _ (fun b p H1 S1 e1 => by
  cases b with
  | true => exact iteT (p.1 rfl Wd B ad H0 H1 σ S1 _ (fun b p v H2 S2 e2 d2 => q b p v H2 S2 (e1.trans e2) d2) (x.go e1))
  | false => exact iteF (p.2 rfl Wd B ad H0 H1 σ S1 _ (fun b p v H2 S2 e2 d2 => q b p v H2 S2 (e1.trans e2) d2) (x.go e1))) x
/-! ### promises -/
inductive Rs where
  | ok (x : PyData)
  | fl (c : Own)
  | er (e : Xw)
noncomputable abbrev Pr := List PyData → (Rs → Prop) → Prop
noncomputable def okRs (H : Hp) (K : Fg) (Wd : Addr → Prop) (Q : VK) (A : Rs → Prop) : Prop :=
  (∀ x, A (.ok x) → ∀ v H', Ex H H' → Dp K (less H' Wd) v x → Q v H') ∧
  (∀ c, A (.fl c) → ∀ a vs H', Ex H H' → H a = none → H' a = some (c.obj a vs) → DpAll K (less H' fun b => Wd b ∨ b = a) vs c.flat → Q (.ref a) H')
/-- a def that never raises -/
noncomputable def spW0 (K : Fg) (P : Pr) : Sp := fun vs H Q _ => ∃ (Wd : Addr → Prop) (ds : List PyData) (A : Rs → Prop), (∀ a, Wd a → ∃ o, H a = some o) ∧ DpAll K (less H Wd) vs ds ∧ P ds A ∧ okRs H K Wd Q A
/-- a def that may raise -/
noncomputable def spW (K : Fg) (cs : Cs) (P : Pr) : Sp := fun vs H Q E => ∃ (Wd : Addr → Prop) (ds : List PyData) (A : Rs → Prop), (∀ a, Wd a → ∃ o, H a = some o) ∧ DpAll K (less H Wd) vs ds ∧ P ds A ∧ okRs H K Wd Q A ∧
  ∀ e, A (.er e) → ∀ d H', Ex H H' → H d = none → H' d = some (.xd e.fs) → E (.ref (cs e.cls)) (some d) H'
/-- a def that draws, the bag its first argument -/
noncomputable def spWB (K : Fg) (P : Pr) : Sp := fun vs H Q _ => ∃ (Wd : Addr → Prop) (b c : Addr) (us : List V) (ds : List PyData) (A : Rs → Prop), (∀ a, Wd a → ∃ o, H a = some o) ∧ vs = .ref b :: us ∧ BagOk H (some (b, c)) ∧
  DpAll K (less H fun a => Wd a ∨ InB (some (b, c)) a) us ds ∧ P ds A ∧
  (∀ x, A (.ok x) → ∀ v H', Xb (some (b, c)) H H' → BagOk H' (some (b, c)) → Dp K (less H' fun a => Wd a ∨ InB (some (b, c)) a) v x → Q v H') ∧
  (∀ l, A (.fl l) → ∀ a vs H', Xb (some (b, c)) H H' → BagOk H' (some (b, c)) → H a = none → H' a = some (l.obj a vs) → DpAll K (less H' fun b' => (Wd b' ∨ InB (some (b, c)) b') ∨ b' = a) vs l.flat → Q (.ref a) H')
/-- what is wanted of a call's answer -/
noncomputable def rE (φ : PyData → Prop) (ε : Xw → Prop) : Rs → Prop
  | .ok x => φ x
  | .fl c => ∃ xs, c = ol xs ∧ φ (.list xs)
  | .er e => ε e
theorem fl_upd {a : Addr} {o : HO} (h : H a = some o) : upd (less H fun b => b = a) a o = H := by
  funext b
  by_cases e : b = a
  · rw [e, upd_same, h]
  · rw [upd_ne e]; exact less_no (Z := fun b => b = a) e
theorem less_less {Z Z' : Addr → Prop} : less (less H Z) Z' = less H fun b => Z b ∨ Z' b := qt_of (by simp (disch := with_unfolding_all
  funext b
  by_cases z' : Z' b
  · rw [less_yes z', less_yes (.inr z')]
  · rw [less_no z']
    by_cases z : Z b
    · rw [less_yes z, less_yes (.inl z)]
    · rw [less_no z, less_no (fun h => h.elim z z')]
  ) only [↓qt_eq])
/-- the answer of a call, a new thing: what stood before stands without it -/
theorem fl_go {a : Addr} {o : HO} (S : Sta K Wd B ad H0 H σ G) (e : Xb B H H2) (b : BagOk H2 B) (hn : H a = none) (ho : H2 a = some o) : Sta K Wd B ad H0 (less H2 fun b => b = a) σ G ∧ Xb B H (less H2 fun b => b = a) ∧ (less H2 fun b => b = a) a = none ∧ (less (less H2 fun b => b = a) (Zs Wd B ad G)) = less H2 (fun b => Zs Wd B ad G b ∨ b = a) := qt_of (by simp (disch := with_unfolding_all
  have x : Xb B H (less H2 fun b => b = a) := fun p u h n => less_of (fun z => by rw [z, hn] at h; cases h) (e p u h n)
  have nb : ¬ InB B a := (S.fresh hn).2.1
  refine ⟨S.drawn x (b.xb fun p z => less_no fun e => nb (e ▸ z)), x, less_yes rfl, ?_⟩
  rw [less_less]
  exact congrArg (less H2) (funext fun b => propext Or.comm)
  ) only [↓qt_eq])
theorem ew_callP {P : List PyData → PyData → Prop} {ta : TA} {dvs : List V} {des : List PyData} {E : XK} (hd : ∀ H, DpAll K H dvs des) (h : AW K cs W ta G (fun ds => ∃ r, P (ds ++ des) r ∧ φ r) ε) : EW K cs W (tCall (spP K P) dvs E ta) G φ ε := fun Wd B ad H0 H σ S Q q x =>
  h Wd B ad H0 H σ S _ (fun ds ⟨r, hp, p⟩ vs H1 S1 e1 d1 => ⟨Zs Wd B ad G, ds ++ des, r, S1.there, dpa_app d1 (hd _), hp, fun v H' e d => q r p v H' (S1.ext e) (e1.trans (.of e)) d⟩) x
theorem bag_zl {b c : Addr} (H : Hp) : (less H fun a => (Wd a ∨ ∃ i c, G[i]? = some (En.ow c) ∧ a = ad i) ∨ InB (some (b, c)) a) = less H (Zs Wd (some (b, c)) ad G) := congrArg (less H) (funext fun a => propext or_assoc)
theorem ew_callB {P : Bag → List PyData → PyData → Bag → Prop} {tr : TA} {i : Nat} {E : XK} (hi : G[i]? = some .bag) (h : AW K cs W tr G (fun ds => ∀ s : Bag, s.ok → ∃ r s', P s ds r s' ∧ s'.ok ∧ φ r) ε) : EW K cs W (tCall (spB K P) [] E (tCons (tVar i) tr)) G φ ε := fun Wd B ad H0 H σ S Q q x => by
  obtain ⟨o, g1, b, c, rfl, rfl⟩ := S.at_ i _ hi
  refine ⟨_, g1, h Wd _ ad H0 H σ S _ (fun ds hp vs H1 S1 e1 d1 => ?_) x⟩
  obtain ⟨s, ok, hb⟩ := S1.bag
  obtain ⟨r, s', hp, ok', p⟩ := hp s ok
  refine ⟨fun a => Wd a ∨ ∃ i c, G[i]? = some (En.ow c) ∧ a = ad i, b, c, vs, s, ds, r, s', fun a z => S1.there a (or_assoc.mp (.inl z)), ?_, hb, ?_, hp, fun v H' e hb d => ?_⟩
  · rw [List.append_nil]
  · rw [bag_zl]; exact d1
  · rw [bag_zl] at d
    exact q r p v H' (S1.drawn e ⟨s', ok', hb⟩) (e1.trans e) d
section
variable {P : Pr} {ta : TA} {dvs : List V} {des : List PyData} {E : XK}
theorem ew_call0 (hd : ∀ H, DpAll K H dvs des) (h : AW K cs W ta G (fun ds => P (ds ++ des) (rE φ fun _ => False)) ε) : EW K cs W (tCall (spW0 K P) dvs E ta) G φ ε := fun Wd B ad H0 H σ S Q q x =>
  h Wd B ad H0 H σ S _ (fun ds hp vs H1 S1 e1 d1 => ⟨Zs Wd B ad G, ds ++ des, _, S1.there, dpa_app d1 (hd _), hp, fun y p v H' e d => q y p v H' (S1.ext e) (e1.trans (.of e)) d, fun c p a us H' e hn ho d => by
    obtain ⟨xs, rfl, p⟩ := p
    have S2 := S1.ext e
    refine q _ p _ H' S2 (e1.trans (.of e)) (.lst (sq_of (less_of (S1.fresh hn).2.2 ho)) (dpa_mono (less_sub fun b z => .inl z) d))⟩) x
theorem ew_callW (hd : ∀ H, DpAll K H dvs des) (h : AW K cs W ta G (fun ds => P (ds ++ des) (rE φ ε)) ε) : EW K cs W (tCallSD (spW K cs P) dvs (WE W) ta) G φ ε := fun Wd B ad H0 H σ S Q q x =>
  h Wd B ad H0 H σ S _ (fun ds hp vs H1 S1 e1 d1 => ⟨Zs Wd B ad G, ds ++ des, _, S1.there, dpa_app d1 (hd _), hp, ⟨fun y p v H' e d => q y p v H' (S1.ext e) (e1.trans (.of e)) d, fun c p a us H' e hn ho d => by
    obtain ⟨xs, rfl, p⟩ := p
    have S2 := S1.ext e
    refine q _ p _ H' S2 (e1.trans (.of e)) (.lst (sq_of (less_of (S1.fresh hn).2.2 ho)) (dpa_mono (less_sub fun b z => .inl z) d))⟩, fun e p d H' e2 hn hx => x e p d H' (S1.ext e2) (e1.trans (.of e2)) (S1.fresh hn).1 (less_of (S1.fresh hn).2.2 hx)⟩) x
theorem ew_callWB {i : Nat} {tr : TA} (hi : G[i]? = some .bag) (h : AW K cs W tr G (fun ds => P ds (rE φ fun _ => False)) ε) : EW K cs W (tCall (spWB K P) [] E (tCons (tVar i) tr)) G φ ε := fun Wd B ad H0 H σ S Q q x => by
  obtain ⟨o, g1, b, c, rfl, rfl⟩ := S.at_ i _ hi
  refine ⟨_, g1, h Wd _ ad H0 H σ S _ (fun ds hp vs H1 S1 e1 d1 => ?_) x⟩
  refine ⟨fun a => Wd a ∨ ∃ i c, G[i]? = some (En.ow c) ∧ a = ad i, b, c, vs, ds, _, fun a z => S1.there a (or_assoc.mp (.inl z)), by rw [List.append_nil], S1.bag, by rw [bag_zl]; exact d1, hp, fun y p v H' e hb d => ?_, fun l p a us H' e hb hn ho d => ?_⟩
  · rw [bag_zl] at d
    exact q y p v H' (S1.drawn e hb) (e1.trans e) d
  · obtain ⟨xs, rfl, p⟩ := p
    refine q _ p _ H' (S1.drawn e hb) (e1.trans e) (.lst (sq_of (less_of (S1.fresh hn).2.2 ho)) (dpa_mono (less_sub fun b z => .inl (or_assoc.mpr z)) d))
/-- keyword arguments -/
theorem ew_callN {Q' : List PyData → PyData → Prop} {tk : TA} {n m : Nat} (h : AW K cs W ta G (fun ds => AW K cs W tk G (fun es => ds.length = n ∧ es.length = m ∧ ∃ r, Q' (ds ++ es) r ∧ φ r) ε) ε) : EW K cs W (tCallN n m (spP K Q') (fun vs zs => vs ++ zs) E ta tk) G φ ε := fun Wd B ad H0 H σ S Q q x =>
  h Wd B ad H0 H σ S _ (fun ds h2 vs H1 S1 e1 d1 => h2 Wd B ad H0 H1 σ S1 _ (fun es ⟨hn, hm, r, hp, p⟩ zs H2 S2 e2 d2 =>
    ⟨(dpa_len d1).trans hn, (dpa_len d2).trans hm, Zs Wd B ad G, ds ++ es, r, S2.there, dpa_app (dpa_mono (Xb.lz e2) d1) d2, hp, fun v H' e d => q r p v H' (S2.ext e) ((e1.trans e2).trans (.of e)) d⟩) (x.go e1)) x
end
/-! ### built-ins -/
theorem ew_cb {r : List V → Hp → VK → Prop} {ta : TA} (h : AW K cs W ta G (fun xs => ∀ Wd B ad H0 H σ vs, Sta K Wd B ad H0 H σ G → DpAll K (less H (Zs Wd B ad G)) vs xs → ∀ Q : VK, (∀ z, φ z → ∀ v H2, Sta K Wd B ad H0 H2 σ G → Xb B H H2 → Dp K (less H2 (Zs Wd B ad G)) v z → Q v H2) → r vs H Q) ε) : EW K cs W (tCB r ta) G φ ε := fun Wd B ad H0 H σ S Q q x =>
  h Wd B ad H0 H σ S _ (fun xs p vs H1 S1 e1 d1 => p Wd B ad H0 H1 σ vs S1 d1 Q fun z p v H2 S2 e2 d2 => q z p v H2 S2 (e1.trans e2) d2) x
theorem ef_cb {r : List V → Hp → VK → Prop} {ta : TA} (h : AW K cs W ta G (fun xs => ∀ Wd B ad H0 H σ vs, Sta K Wd B ad H0 H σ G → DpAll K (less H (Zs Wd B ad G)) vs xs → ∀ Q : VK, (∀ c, χ c → ∀ a vs H2, Sta K Wd B ad H0 H2 σ G → Xb B H H2 → H2 a = none → DpAll K (less H2 (Zs Wd B ad G)) vs c.flat → Q (.ref a) (upd H2 a (c.obj a vs))) → r vs H Q) ε) : EF K cs W (tCB r ta) G χ ε := fun Wd B ad H0 H σ S Q q x =>
  h Wd B ad H0 H σ S _ (fun xs p vs H1 S1 e1 d1 => p Wd B ad H0 H1 σ vs S1 d1 Q fun c p a us H2 S2 e2 hn d2 => q c p a us H2 S2 (e1.trans e2) hn d2) x
theorem ew_intB {ta : TA} (h : AW K cs W ta G (fun xs => ∃ i, xs = [.bool i] ∧ φ (.int (if i then 1 else 0))) ε) : EW K cs W (tCB rInt1 ta) G φ ε := ew_cb (aw_mono h fun xs ⟨i, e, p⟩ Wd B ad H0 H σ vs S d Q q => by
  subst e
  obtain ⟨v, rfl, d1⟩ := dp1 d
  cases d1
  exact .inr ⟨i, rfl, q _ p _ H S Xb.refl (.int _)⟩)
theorem ew_len {ta : TA} (h : AW K cs W ta G (fun xs => ∃ x ys, xs = [x] ∧ itemsOf x = some ys ∧ φ (.int ys.length)) ε) : EW K cs W (tCB (rLenQ K) ta) G φ ε := ew_cb (aw_mono h fun xs ⟨x, ys, e, hx, p⟩ Wd B ad H0 H σ vs S d Q q => by
  subst e
  obtain ⟨v, rfl, d1⟩ := dp1 d
  rcases items_cases hx with rfl | rfl
  · cases d1 with
    | lst g t => exact ⟨_, _, rfl, .inl (ex_l less_ex g), by rw [dpa_len t]; exact q _ p _ H S Xb.refl (.int _)⟩
  · cases d1 with
    | tup g t => exact ⟨_, _, rfl, .inr (ex_t less_ex g), by rw [dpa_len t]; exact q _ p _ H S Xb.refl (.int _)⟩)
theorem ew_lenO {xs : List PyData} {i : Nat} (hi : G[i]? = some (.ow (ol xs))) (p : φ (.int xs.length)) : EW K cs W (tCB (rLenQ K) (tCons (tVar i) tNil)) G φ ε := fun Wd B ad H0 H σ S Q q x => by
  obtain ⟨o, g1, rfl, vs, g3, g4⟩ := S.at_ i _ hi
  have g3 : H (ad i) = some (.lst vs) := g3
  have g4 : DpAll K _ vs xs := g4
  exact ⟨_, g1, _, _, rfl, .inl (sq_of g3), by rw [dpa_len g4]; exact q _ p _ H S Xb.refl (.int _)⟩
theorem ef_list {ta : TA} (h : AW K cs W ta G (fun xs => ∃ x ys, xs = [x] ∧ itemsOf x = some ys ∧ χ (ol ys)) ε) : EF K cs W (tCB (rListQ K) ta) G χ ε := ef_cb (aw_mono h fun xs ⟨x, ys, e, hx, p⟩ Wd B ad H0 H σ vs S d Q q => by
  subst e
  obtain ⟨v, rfl, d1⟩ := dp1 d
  rcases items_cases hx with rfl | rfl
  · cases d1 with
    | lst g t => exact ⟨_, _, rfl, .inl (ex_l less_ex g), fun l hl => q _ p l _ H S Xb.refl hl t⟩
  · cases d1 with
    | tup g t => exact ⟨_, _, rfl, .inr (ex_t less_ex g), fun l hl => q _ p l _ H S Xb.refl hl t⟩)
theorem ew_list {ta : TA} (h : AW K cs W ta G (fun xs => ∃ x ys, xs = [x] ∧ itemsOf x = some ys ∧ φ (.list ys)) ε) : EW K cs W (tCB (rListQ K) ta) G φ ε := ew_ef (ef_list (aw_mono h fun xs ⟨x, ys, e, hx, p⟩ => ⟨x, ys, e, hx, ys, rfl, p⟩))
theorem new_tupW {vs : List V} {xs : List PyData} (S : Sta K Wd B ad H0 H σ G) (d : DpAll K (less H (Zs Wd B ad G)) vs xs) {l : Addr} (hl : H l = none) {Q : VK} (p : φ (.tuple xs))
    (q : ∀ z, φ z → ∀ v H2, Sta K Wd B ad H0 H2 σ G → Xb B H H2 → Dp K (less H2 (Zs Wd B ad G)) v z → Q v H2) : Q (.ref l) (upd H l (.tup vs)) := by
  obtain ⟨S2, e2, g⟩ := new_ex (o := .tup vs) S hl
  exact q _ p _ _ S2 e2 (.tup (st_of g) (dpa_mono (Xb.lz e2) d))
theorem ew_tuple {ta : TA} (h : AW K cs W ta G (fun xs => ∃ x ys, xs = [x] ∧ itemsOf x = some ys ∧ φ (.tuple ys)) ε) : EW K cs W (tCB (rTupQ K) ta) G φ ε := ew_cb (aw_mono h fun xs ⟨x, ys, e, hx, p⟩ Wd B ad H0 H σ vs S d Q q => by
  subst e
  obtain ⟨v, rfl, d1⟩ := dp1 d
  rcases items_cases hx with rfl | rfl
  · cases d1 with
    | lst g t => exact ⟨_, _, rfl, .inl ⟨ex_l less_ex g, fun l hl => new_tupW S t hl p q⟩⟩
  · cases d1 with
    | tup g t => exact ⟨_, _, rfl, .inr ⟨ex_t less_ex g, q _ p _ H S Xb.refl (.tup g t)⟩⟩)
theorem ew_tupO {xs : List PyData} {i : Nat} (hi : G[i]? = some (.ow (ol xs))) (p : φ (.tuple xs)) : EW K cs W (tCB (rTupQ K) (tCons (tVar i) tNil)) G φ ε := fun Wd B ad H0 H σ S Q q x => by
  obtain ⟨o, g1, rfl, vs, g3, g4⟩ := S.at_ i _ hi
  have g3 : H (ad i) = some (.lst vs) := g3
  exact ⟨_, g1, _, _, rfl, .inl ⟨sq_of g3, fun l hl => new_tupW S g4 hl p q⟩⟩
noncomputable def AllB (xs : List PyData) (b : Bool) : Prop := ∃ bs : List Bool, xs = [.list (bs.map PyData.bool)] ∧ b = bs.all id
noncomputable def AnyB (xs : List PyData) (b : Bool) : Prop := ∃ bs : List Bool, xs = [.list (bs.map PyData.bool)] ∧ b = bs.any id
theorem ew_all {ta : TA} (h : AW K cs W ta G (fun xs => ∃ b, AllB xs b ∧ φ (.bool b)) ε) : EW K cs W (tCB (rAll K) ta) G φ ε := ew_cb (aw_mono h fun xs ⟨b, ⟨bs, e, eb⟩, p⟩ Wd B ad H0 H σ vs S d Q q => by
  subst e
  subst eb
  obtain ⟨v, rfl, d1⟩ := dp1 d
  cases d1 with
  | lst g t =>
    have e := dpa_bools t
    subst e
    exact ⟨_, bs, rfl, ex_l less_ex g, q _ p _ H S Xb.refl (.bl _)⟩)
theorem ew_any {ta : TA} (h : AW K cs W ta G (fun xs => ∃ b, AnyB xs b ∧ φ (.bool b)) ε) : EW K cs W (tCB (rAny K) ta) G φ ε := ew_cb (aw_mono h fun xs ⟨b, ⟨bs, e, eb⟩, p⟩ Wd B ad H0 H σ vs S d Q q => by
  subst e
  subst eb
  obtain ⟨v, rfl, d1⟩ := dp1 d
  cases d1 with
  | lst g t =>
    have e := dpa_bools t
    subst e
    exact ⟨_, bs, rfl, ex_l less_ex g, q _ p _ H S Xb.refl (.bl _)⟩)
theorem ew_isi {n : String} (h : EW K cs W ta G (fun x => ∃ b, kitB (tyN x) n = some b ∧ φ (.bool b)) ε) : EW K cs W (tCB (rIsi K) (tCons ta (tCons (tC (.ty n)) tNil))) G φ ε := fun Wd B ad H0 H σ S Q q x =>
  h Wd B ad H0 H σ S _ (fun y ⟨b, hb, p⟩ v H1 S1 e1 d1 => ⟨v, .ty n, _, _, b, rfl, .ty n, dp_ty d1, kit_ty hb, q _ p _ H1 S1 e1 (.bl _)⟩) x
theorem ew_isi2 {n m : String} (h : EW K cs W ta G (fun x => ∃ b c, kitB (tyN x) n = some b ∧ kitB (tyN x) m = some c ∧ φ (.bool (b || c))) ε) : EW K cs W (tCB (rIsiT K) (tCons ta (tCons (tTup (tCons (tC (.ty n)) (tCons (tC (.ty m)) tNil))) tNil))) G φ ε := fun Wd B ad H0 H σ S Q q x =>
  h Wd B ad H0 H σ S _ (fun y ⟨b, c, hb, hc, p⟩ v H1 S1 e1 d1 => ⟨by show 2 ≤ sizeLine; decide, fun l hl => by
    obtain ⟨S2, e2, g⟩ := new_ex (o := .tup [V.ty n, V.ty m]) S1 hl
    refine ⟨v, l, [.ty n, .ty m], _, [.type n, .type m], b || c, rfl, (less_some g).2, .cons (.ty n) (.cons (.ty m) .nil), dp_ty (dp_mono (Xb.lz e2) d1), kitAny_cons (kit_ty hb) (fun e => kitAny_cons (kit_ty hc) (fun e2 => ?_) fun e2 => ?_) (fun e => ?_), q _ p _ _ S2 (e1.trans e2) (.bl _)⟩
    · rw [e, e2]; rfl
    · rw [e, e2]; rfl
    · rw [e]; rfl⟩) x
/-! ### slices, joins -/
theorem ow_none (p : ω none) : OW K cs W tNoPart G ω ε := fun Wd B ad H0 H σ S Q q _ => q _ p H S Xb.refl
theorem ow_some (h : EW K cs W te G (fun x => ∃ i, x = .int i ∧ ω (some i)) ε) : OW K cs W (tPart te) G ω ε := fun Wd B ad H0 H σ S Q q x => h Wd B ad H0 H σ S _ (fun y ⟨i, e, p⟩ v H1 S1 e1 d1 => by
  subst e
  cases d1
  exact ⟨i, rfl, q _ p H1 S1 e1⟩) x
theorem ef_slL {tl th : TO} (h : EW K cs W te G (fun x => ∃ xs, x = .list xs ∧ OW K cs W tl G (fun lo => OW K cs W th G (fun hi => χ (ol (cutD xs lo hi))) ε) ε) ε) : EF K cs W (tSl (rSlL K) te tl th) G χ ε := fun Wd B ad H0 H σ S Q q x =>
  h Wd B ad H0 H σ S _ (fun y ⟨xs, e, p⟩ v H1 S1 e1 d1 => p Wd B ad H0 H1 σ S1 _ (fun lo p H2 S2 e2 => p Wd B ad H0 H2 σ S2 _ (fun hi p H3 S3 e3 => by
    subst e
    cases dp_mono (Xb.lz (e2.trans e3)) d1 with
    | lst g t => exact ⟨_, _, rfl, ex_l less_ex g, fun l hl => q _ p l _ H3 S3 (e1.trans (e2.trans e3)) hl (dpa_cut t lo hi)⟩) ((x.go e1).go e2)) (x.go e1)) x
theorem ew_slL {tl th : TO} (h : EW K cs W te G (fun x => ∃ xs, x = .list xs ∧ OW K cs W tl G (fun lo => OW K cs W th G (fun hi => φ (.list (cutD xs lo hi))) ε) ε) ε) : EW K cs W (tSl (rSlL K) te tl th) G φ ε :=
  ew_ef (ef_slL (ew_mono h fun x ⟨xs, e, p⟩ => ⟨xs, e, fun Wd B ad H0 H σ S Q q x => p Wd B ad H0 H σ S Q (fun lo p => q lo (fun Wd B ad H0 H σ S Q q x => p Wd B ad H0 H σ S Q (fun hi p => q hi ⟨_, rfl, p⟩) x)) x⟩))
theorem ef_catL (h : EW K cs W ta G (fun x => ∃ xs, x = .list xs ∧ EW K cs W tb G (fun y => ∃ ys, y = .list ys ∧ xs.length + ys.length ≤ 16000000 ∧ χ (ol (xs ++ ys))) ε) ε) : EF K cs W (tOp (rCatL K) ta tb) G χ ε := fun Wd B ad H0 H σ S Q q x =>
  h Wd B ad H0 H σ S _ (fun y ⟨xs, e, p⟩ v H1 S1 e1 d1 => p Wd B ad H0 H1 σ S1 _ (fun y ⟨ys, e', hl, p⟩ w H2 S2 e2 d2 => by
    subst e; subst e'
    cases dp_mono (Xb.lz e2) d1 with
    | lst g t =>
      cases d2 with
      | lst g2 t2 =>
        exact ⟨_, _, _, _, rfl, rfl, ex_l less_ex g, ex_l less_ex g2, by rw [dpa_len t, dpa_len t2]; exact sz_line hl, fun l hn => q _ p l _ H2 S2 (e1.trans e2) hn (dpa_app t t2)⟩) (x.go e1)) x
theorem ew_catL (h : EW K cs W ta G (fun x => ∃ xs, x = .list xs ∧ EW K cs W tb G (fun y => ∃ ys, y = .list ys ∧ xs.length + ys.length ≤ 16000000 ∧ φ (.list (xs ++ ys))) ε) ε) : EW K cs W (tOp (rCatL K) ta tb) G φ ε :=
  ew_ef (ef_catL (ew_mono h fun x ⟨xs, e, p⟩ => ⟨xs, e, ew_mono p fun y ⟨ys, e, hl, p⟩ => ⟨ys, e, hl, _, rfl, p⟩⟩))
theorem ew_catA (h : EW K cs W ta G (fun x => ∃ xs, x = .tuple xs ∧ EW K cs W tb G (fun y => ∃ ys, y = .tuple ys ∧ xs.length + ys.length ≤ 16000000 ∧ φ (.tuple (xs ++ ys))) ε) ε) : EW K cs W (tOp (rCatA K) ta tb) G φ ε :=
  ew_op (ew_mono h fun x ⟨xs, e, h⟩ => ew_mono h fun y ⟨ys, e2, hl, p⟩ => fun Wd B ad H0 H σ v w S d1 d2 Q q => by
    subst e; subst e2
    cases d1 with
    | tup g t =>
      cases d2 with
      | tup g2 t2 =>
        refine ⟨_, _, _, _, rfl, rfl, ex_t less_ex g, ex_t less_ex g2, by rw [dpa_len t, dpa_len t2]; exact sz_line hl, fun z => ?_, fun z1 z2 => ?_, fun z1 z2 l hl => new_tupW S (dpa_app t t2) hl p q⟩
        · have e := (dpa_nil t).mp z
          subst e
          exact q _ p _ H S Xb.refl (.tup g2 t2)
        · have e := (dpa_nil t2).mp z2
          subst e
          exact q _ p _ H S Xb.refl (by rw [List.append_nil]; exact .tup g t))
/-! ### in, of whole numbers -/
theorem ew_inI {neg : Bool} (h : EW K cs W ta G (fun x => ∃ i, x = .int i ∧ EW K cs W tb G (fun y => ∃ ns : List Int, itemsOf y = some (ns.map PyData.int) ∧ φ (.bool (if neg then !ns.contains i else ns.contains i))) ε) ε) : EW K cs W (tOp (rIn K neg) ta tb) G φ ε :=
  ew_op (ew_mono h fun x ⟨i, e, h⟩ => ew_mono h fun y ⟨ns, e2, p⟩ => fun Wd B ad H0 H σ v w S d1 d2 Q q => by
    subst e
    cases d1
    rcases items_cases e2 with rfl | rfl
    · cases d2 with
      | lst g t =>
        have e := dpa_ints t
        subst e
        exact ⟨_, _, rfl, .inl (ex_l less_ex g), rfl, flat_ints ns, by rw [inV_ints]; exact q _ p _ H S Xb.refl (.bl _)⟩
    · cases d2 with
      | tup g t =>
        have e := dpa_ints t
        subst e
        exact ⟨_, _, rfl, .inr (ex_t less_ex g), rfl, flat_ints ns, by rw [inV_ints]; exact q _ p _ H S Xb.refl (.bl _)⟩)
end
end U.N

end
section
namespace U.N
open PySem PyProof.Rows L2 Evl
/-! ### statements -/
noncomputable def sq (K : Fg) (cs : Cs) (W : WX) (tz : TS) (Φ : Out → Prop) : Out → Prop
  | .nx G => SW K cs W tz G Φ
  | .rt x => Φ (.rt x)
  | .rl c => Φ (.rl c)
  | .bk G => Φ (.bk G)
  | .ct G => Φ (.ct G)
  | .ex e G => Φ (.ex e G)
/-- what a turn of a loop may end with -/
noncomputable def lp (I : Gam → Prop) (Φ : Out → Prop) : Out → Prop
  | .nx G => I G
  | .ct G => I G
  | .bk G => Φ (.nx G)
  | .rt x => Φ (.rt x)
  | .rl c => Φ (.rl c)
  | .ex e G => Φ (.ex e G)
section
variable {K : Fg} {cs : Cs} {W : WX} {G G' G1 G2 : Gam} {ta tb tc te : TE} {t u : TT} {tu tw tz : TS} {φ : PyData → Prop} {ε : Xw → Prop} {ψ : Bool → Prop} {α : List PyData → Prop} {ι : List PyData → Prop} {χ : Own → Prop} {Φ Ψ : Out → Prop}
variable {Wd : Addr → Prop} {B : Option (Addr × Addr)} {ad : Nat → Addr} {H0 H H1 H2 : Hp} {σ : St}
theorem PostO.mono {M M' : Hp} {D : Ends} {o : Out} (e : Ex M M') (h : PostO K cs W Wd B H0 M D o) : PostO K cs W Wd B H0 M' D o := qt_of (by simp (disch := with_unfolding_all
  cases o with
  | nx G => exact fun ad H σ S x => h ad H σ S (e.trans x)
  | rt x => exact h
  | rl c => exact h
  | bk G => exact fun ad H σ S x => h ad H σ S (e.trans x)
  | ct G => exact fun ad H σ S x => h ad H σ S (e.trans x)
  | ex e' G => exact fun d ad H σ S x => h d ad H σ S (e.trans x)
  ) only [↓qt_eq])
theorem post_xp {D : Ends} (q : ∀ o, Φ o → PostO K cs W Wd B H0 (less H (Zs Wd B ad G)) D o) : XP K cs W Wd B ad H0 H σ G (fun e => Φ (.ex e G)) := fun e he d H2 S x hd hx => q _ he d ad H2 σ S (Xb.lz x) hd hx
theorem sw_mono (h : SW K cs W tu G Φ) (m : ∀ o, Φ o → Ψ o) : SW K cs W tu G Ψ := fun Wd B ad H0 H σ D S q => h Wd B ad H0 H σ D S fun o p => q o (m o p)
theorem sw_seq (h : SW K cs W tu G (sq K cs W tz Φ)) : SW K cs W (tSeq tu tz) G Φ := fun Wd B ad H0 H σ D S q =>
  h Wd B ad H0 H σ { D with nx := tz D } S fun o p => by
    cases o with
    | nx G1 => exact fun ad' H' σ' S' e => p Wd B ad' H0 H' σ' D S' fun o p => (q o p).mono e
    | rt x => exact q _ p
    | rl c => exact q _ p
    | bk G => exact q _ p
    | ct G => exact q _ p
    | ex e G => exact q _ p
theorem sq_nx (h : SW K cs W tz G Φ) : sq K cs W tz Φ (.nx G) := h
theorem sq_rt {x : PyData} (h : Φ (.rt x)) : sq K cs W tz Φ (.rt x) := h
theorem lp_nx {I : Gam → Prop} (h : I G) : lp I Φ (.nx G) := h
theorem lp_rt {I : Gam → Prop} {x : PyData} (h : Φ (.rt x)) : lp I Φ (.rt x) := h
theorem sw_next (h : Φ (.nx G)) : SW K cs W tNext G Φ := fun Wd B ad H0 H σ D S q => q _ h ad H σ S (Ex.refl _)
theorem sw_asg {i : Nat} (h : EW K cs W te G (fun x => Φ (.nx (G.set i (.d x)))) (fun e => Φ (.ex e G))) : SW K cs W (tAsg te (gName i)) G Φ := fun Wd B ad H0 H σ D S q =>
  h Wd B ad H0 H σ S _ (fun x p v H1 S1 e1 d1 => q _ p ad H1 _ (S1.setD d1) ((Xb.lz e1).trans (less_sub fun a z => Zs.set_of (fun _ z => by cases z) z))) (post_xp q)
/-- a new thing of one's own -/
theorem sw_asgF {i : Nat} (h : EF K cs W te G (fun c => Φ (.nx (G.set i (.ow c)))) (fun e => Φ (.ex e G))) : SW K cs W (tAsg te (gName i)) G Φ := fun Wd B ad H0 H σ D S q =>
  h Wd B ad H0 H σ S _ (fun c p a vs H1 S1 e1 hn d => q _ p _ _ _ (S1.setOwn (i := i) hn d) ((Xb.lz e1).trans (own_ex hn))) (post_xp q)
theorem sw_ret (h : EW K cs W te G (fun x => Φ (.rt x)) (fun e => Φ (.ex e G))) : SW K cs W (tRet te) G Φ := fun Wd B ad H0 H σ D S q =>
  h Wd B ad H0 H σ S _ (fun x p v H1 S1 e1 d1 => q _ p v H1 S1.base S1.bag (dp_mono (less_sub fun a z => z.elim .inl fun z => .inr (.inr z)) d1)) (post_xp q)
/-- a new list is told -/
theorem sw_retF (h : EF K cs W te G (fun c => Φ (.rl c)) (fun e => Φ (.ex e G))) : SW K cs W (tRet te) G Φ := fun Wd B ad H0 H σ D S q =>
  h Wd B ad H0 H σ S _ (fun c p a vs H1 S1 e1 hn d => by
    obtain ⟨S2, e2, g⟩ := new_ex (o := c.obj a vs) S1 hn
    refine q _ p a vs _ S2.base S2.bag (S1.fresh hn).1 upd_same (dpa_mono ?_ d)
    intro b o hb
    obtain ⟨z, hb⟩ := less_some hb
    refine less_of (fun y => ?_) (e2 _ _ hb fun y => z (.inr (.inr y)))
    rcases y with (y | y) | y
    · exact z (.inl y)
    · exact z (.inr (.inr y))
    · rw [y, hn] at hb; cases hb) (post_xp q)
/-- a thing of one's own is told -/
theorem sw_retO {i : Nat} {c : Own} (hi : G[i]? = some (.ow c)) (h : Φ (.rl c)) : SW K cs W (tRet (tVar i)) G Φ := fun Wd B ad H0 H σ D S q => by
  obtain ⟨o, g1, rfl, vs, g3, g4⟩ := S.at_ i _ hi
  refine ⟨_, g1, q _ h _ vs H S.base S.bag (S.sep i c hi).1 g3 (dpa_mono (less_sub fun b z => ?_) g4)⟩
  rcases z with (z | z) | z
  · exact .inl z
  · exact .inr (.inr z)
  · exact .inr (.inl ⟨i, c, hi, z⟩)
theorem sw_if (h : TW K cs W t G (fun b => Cnd b (SW K cs W tu G Φ) (SW K cs W tw G Φ)) (fun e => Φ (.ex e G))) : SW K cs W (tIfS t tu tw) G Φ := fun Wd B ad H0 H σ D S q =>
  h Wd B ad H0 H σ S _ (fun b p H1 S1 e1 => by
    cases b with
    | true => exact iteT (p.1 rfl Wd B ad H0 H1 σ D S1 fun o p => (q o p).mono (Xb.lz e1))
    | false => exact iteF (p.2 rfl Wd B ad H0 H1 σ D S1 fun o p => (q o p).mono (Xb.lz e1))) (post_xp q)
theorem sw_freeze {i : Nat} {xs : List PyData} (hi : G[i]? = some (.ow (ol xs))) (h : SW K cs W tu (G.set i (.d (.list xs))) Φ) (hx : ∀ e G', Φ (.ex e G') → True := by intros; trivial) : SW K cs W tu G Φ := fun Wd B ad H0 H σ D S q =>
  h Wd B ad H0 H σ D (S.freeze hi) fun o p => (q o p).mono (less_sub fun a z => Zs.set_of (fun _ z => by cases z) z)
/-! ### lists of one's own -/
theorem sw_app {i : Nat} {xs : List PyData} (hi : G[i]? = some (.ow (ol xs))) (hl : xs.length < 16000000) (h : EW K cs W te G (fun x => Φ (.nx (G.set i (.ow (ol (xs ++ [x])))))) (fun e => Φ (.ex e G))) : SW K cs W (tDrop (tBM K "list" rAppend (tVar i) (tCons te tNil))) G Φ := fun Wd B ad H0 H σ D S q => by
  obtain ⟨o, g1, rfl, vs, g3, g4⟩ := S.at_ i _ hi
  have g3 : H (ad i) = some (.lst vs) := g3
  refine ⟨_, g1, Or.inl ⟨rfl, vs, sq_of g3⟩, h Wd B ad H0 H σ S _ (fun x p v H1 S1 e1 d1 => ?_) (post_xp q)⟩
  obtain ⟨_, _, _, us, g5, g6⟩ := S1.at_ i _ hi
  have g6 : DpAll K _ us xs := g6
  exact ⟨_, us, v, rfl, rfl, g5, by rw [dpa_len g6]; exact Nat.lt_of_lt_of_le hl (by decide), q _ p ad _ σ (S1.chg (c' := ol (xs ++ [x])) hi (dpa_app g6 (.cons d1 .nil))) ((Xb.lz e1).trans (chg_ex hi))⟩
/-! ### what is forgotten -/
inductive Wk : Gam → Gam → Prop
  | nil : Wk [] []
  | cons {e : En} {G G' : Gam} : Wk G G' → Wk (e :: G) (e :: G')
  | drop {e : En} {G G' : Gam} : Wk G G' → Wk (e :: G) (.un :: G')
theorem Wk.length : ∀ {G G' : Gam}, Wk G G' → G.length = G'.length
  | _, _, .nil => rfl
  | _, _, .cons h => congrArg (· + 1) h.length
  | _, _, .drop h => congrArg (· + 1) h.length
theorem Wk.get : ∀ {G G' : Gam} {i : Nat} {e : En}, Wk G G' → G'[i]? = some e → G[i]? = some e ∨ e = .un
  | _, _, _, _, .nil, h => by simp at h
  | _, _, 0, _, .cons _, h => .inl h
  | _, _, 0, _, .drop _, h => .inr (Option.some.inj h).symm
  | _, _, i + 1, _, .cons w, h => Wk.get (i := i) w h
  | _, _, i + 1, _, .drop w, h => Wk.get (i := i) w h
theorem Wk.own {G G' : Gam} {i : Nat} {c : Own} (w : Wk G G') (h : G'[i]? = some (.ow c)) : G[i]? = some (.ow c) := (w.get h).resolve_right fun z => by cases z
theorem Wk.ex {G G' : Gam} (w : Wk G G') : Ex (less H (Zs Wd B ad G)) (less H (Zs Wd B ad G')) := less_sub fun a q => by
  rcases q with q | ⟨i, c, g, r⟩ | q
  · exact .inl q
  · exact .inr (.inl ⟨i, c, w.own g, r⟩)
  · exact .inr (.inr q)
theorem Sta.wk {G G' : Gam} (w : Wk G G') (S : Sta K Wd B ad H0 H σ G) : Sta K Wd B ad H0 H σ G' where
  len := S.len.trans w.length
  at_ := fun i e h => by
    rcases w.get h with g | rfl
    · obtain ⟨o, g1, g2⟩ := S.at_ i e g
      exact ⟨o, g1, g2.mono w.ex fun _ _ _ q => q⟩
    · have il : i < σ.length := by rw [S.len, w.length]; exact (List.getElem?_eq_some_iff.mp h).1
      exact ⟨σ[i], List.getElem?_eq_getElem il, trivial⟩
  inj := fun i j c c' g g' q => S.inj i j c c' (w.own g) (w.own g') q
  sep := fun i c g => S.sep i c (w.own g)
  base := S.base
  bag := S.bag
  wd := S.wd
theorem sw_wk (w : Wk G G1) (h : SW K cs W tu G1 Φ) : SW K cs W tu G Φ := fun Wd B ad H0 H σ D S q =>
  h Wd B ad H0 H σ D (S.wk w) fun o p => (q o p).mono w.ex
/-! ### targets -/
/-- targets that only set names: vs tells which -/
noncomputable def GC (K : Fg) (g : TG) (vs : List Nat) (G : Gam) (x : PyData) (γ : Gam → Prop) : Prop :=
  ∀ Wd B ad H0 H σ v, Sta K Wd B ad H0 H σ G → Dp K (less H (Zs Wd B ad G)) v x → ∀ Q : St → Hp → Prop,
  (∀ G' σ', γ G' → G.length = G'.length → (∀ i, i ∉ vs → G'[i]? = G[i]?) → (∀ i c, i ∈ vs → G'[i]? = some (.ow c) → G[i]? = some (.ow c)) → Sta K Wd B ad H0 H σ' G' → Ex (less H (Zs Wd B ad G)) (less H (Zs Wd B ad G')) → wipe σ' vs = wipe σ vs → Q σ' H) → g v σ H Q
noncomputable def GsC (K : Fg) (g : TGs) (vs : List Nat) (G : Gam) (xs : List PyData) (γ : Gam → Prop) : Prop :=
  ∀ Wd B ad H0 H σ us, Sta K Wd B ad H0 H σ G → DpAll K (less H (Zs Wd B ad G)) us xs → ∀ Q : St → Hp → Prop,
  (∀ G' σ', γ G' → G.length = G'.length → (∀ i, i ∉ vs → G'[i]? = G[i]?) → (∀ i c, i ∈ vs → G'[i]? = some (.ow c) → G[i]? = some (.ow c)) → Sta K Wd B ad H0 H σ' G' → Ex (less H (Zs Wd B ad G)) (less H (Zs Wd B ad G')) → wipe σ' vs = wipe σ vs → Q σ' H) → g us σ H Q
variable {γ : Gam → Prop} {vs : List Nat}
theorem gc_name {i : Nat} {x : PyData} (hi : i ∈ vs) (h : γ (G.set i (.d x))) : GC K (gName i) vs G x γ := fun Wd B ad H0 H σ v S d Q q => by
  refine q _ _ h (by rw [List.length_set]) (fun j hj => List.getElem?_set_ne fun (e : i = j) => hj (by rw [← e]; exact hi)) (fun j c _ g => ?_) (S.setD d) (less_sub fun a z => Zs.set_of (fun _ z => by cases z) z) (wipe_set hi)
  rcases get_set g with ⟨rfl, _, e⟩ | ⟨_, g⟩
  · cases e
  · exact g
theorem gsc_nil (h : γ G) : GsC K gNil vs G [] γ := fun Wd B ad H0 H σ us S d Q q => by
  cases d
  exact ⟨rfl, q _ _ h rfl (fun _ _ => rfl) (fun _ _ _ g => g) S (Ex.refl _) rfl⟩
theorem gsc_cons {g : TG} {gs : TGs} {x : PyData} {xs : List PyData} (h : GC K g vs G x (fun G' => GsC K gs vs G' xs γ)) : GsC K (gCons g gs) vs G (x :: xs) γ := fun Wd B ad H0 H σ us S d Q q => by
  cases d with
  | cons a b =>
    refine ⟨_, _, rfl, h Wd B ad H0 H σ _ S a _ fun G1 σ1 p l1 o1 w1 S1 e1 x1 => ?_⟩
    exact p Wd B ad H0 H σ1 _ S1 (dpa_mono e1 b) _ fun G2 σ2 p l2 o2 w2 S2 e2 x2 => q G2 σ2 p (l1.trans l2) (fun i hi => (o2 i hi).trans (o1 i hi)) (fun i c hi g => w1 i c hi (w2 i c hi g)) S2 (e1.trans e2) (x2.trans x1)
theorem gc_tup {n : Nat} {gs : TGs} {xs : List PyData} (hn : xs.length = n) (h : GsC K gs vs G xs γ) : GC K (gTup K n gs) vs G (.tuple xs) γ := fun Wd B ad H0 H σ v S d Q q => by
  cases d with
  | tup g t => exact ⟨_, _, rfl, ex_t less_ex g, (dpa_len t).trans hn, h Wd B ad H0 H σ _ S t Q q⟩
/-- targets at large -/
noncomputable def GW (K : Fg) (g : TG) (G : Gam) (x : PyData) (γ : Gam → Prop) : Prop :=
  ∀ Wd B ad H0 H σ v, Sta K Wd B ad H0 H σ G → Dp K (less H (Zs Wd B ad G)) v x → ∀ Q : St → Hp → Prop,
  (∀ G' ad' H' σ', γ G' → Sta K Wd B ad' H0 H' σ' G' → Ex (less H (Zs Wd B ad G)) (less H' (Zs Wd B ad' G')) → Q σ' H') → g v σ H Q
theorem gw_gc (vs : List Nat) {g : TG} {x : PyData} (h : GC K g vs G x γ) : GW K g G x γ := fun Wd B ad H0 H σ v S d Q q => h Wd B ad H0 H σ v S d Q fun G' σ' p _ _ _ S' e _ => q G' ad H σ' p S' e
theorem gw_name {i : Nat} {x : PyData} (h : γ (G.set i (.d x))) : GW K (gName i) G x γ := gw_gc [i] (gc_name (List.mem_singleton.mpr rfl) h)
theorem sw_asgT {g : TG} (h : EW K cs W te G (fun x => GW K g G x (fun G' => Φ (.nx G'))) (fun e => Φ (.ex e G))) : SW K cs W (tAsg te g) G Φ := fun Wd B ad H0 H σ D S q =>
  h Wd B ad H0 H σ S _ (fun x p v H1 S1 e1 d1 => p Wd B ad H0 H1 σ v S1 d1 _ fun G' ad' H' σ' p S' e' => q _ p ad' H' σ' S' ((Xb.lz e1).trans e')) (post_xp q)
/-! ### what is walked -/
theorem dp_itL {v : V} {ds : List PyData} {M : Hp} (d : Dp K M v (.list ds)) : ∃ a vs, v = .ref a ∧ SqL K M a vs ∧ ItOk K (Itl K a) ds M := qt_of (by simp (disch := with_unfolding_all
  cases d with
  | @lst a vs _ g t =>
    refine ⟨a, vs, rfl, g, fun H' Z hz e i => ?_⟩
    have g' : SqL K H' a vs := ex_l less_ex (ex_l e g)
    refine ⟨fun d hd => ?_, fun hl => ⟨vs, g', by rw [dpa_len t]; exact hl⟩, fun x H'' hy => ?_⟩
    · obtain ⟨v, hv, _⟩ := dpa_get t hd
      exact ⟨vs, v, g', hv⟩
    · obtain ⟨rfl, hy⟩ := hy
      refine ⟨Ex.refl _, fun d hd => ?_⟩
      obtain ⟨v, hv, hd⟩ := dpa_get t hd
      have ev : v = x := Option.some.inj (hv.symm.trans (hy vs g'))
      rw [← ev]
      exact dp_mono e hd
  ) only [↓qt_eq])
theorem dp_itT {v : V} {ds : List PyData} {M : Hp} (d : Dp K M v (.tuple ds)) : ∃ a vs, v = .ref a ∧ SqT K M a vs ∧ ItOk K (Itt K a) ds M := qt_of (by simp (disch := with_unfolding_all
  cases d with
  | @tup a vs _ g t =>
    refine ⟨a, vs, rfl, g, fun H' Z hz e i => ?_⟩
    have g' : SqT K H' a vs := ex_t less_ex (ex_t e g)
    refine ⟨fun d hd => ?_, fun hl => ⟨vs, g', by rw [dpa_len t]; exact hl⟩, fun x H'' hy => ?_⟩
    · obtain ⟨v, hv, _⟩ := dpa_get t hd
      exact ⟨vs, v, g', hv⟩
    · obtain ⟨rfl, hy⟩ := hy
      refine ⟨Ex.refl _, fun d hd => ?_⟩
      obtain ⟨v, hv, hd⟩ := dpa_get t hd
      have ev : v = x := Option.some.inj (hv.symm.trans (hy vs g'))
      rw [← ev]
      exact dp_mono e hd
  ) only [↓qt_eq])
theorem iw_list (h : EW K cs W te G (fun x => ∃ ds, x = .list ds ∧ ι ds) ε) : IW K cs W (iList K te) G ι ε := fun Wd B ad H0 H σ S R q x => h Wd B ad H0 H σ S _ (fun y ⟨ds, e, p⟩ v H1 S1 e1 d1 => by
  subst e
  obtain ⟨a, vs, rfl, g, ok⟩ := dp_itL d1
  exact ⟨a, rfl, ⟨vs, ex_l less_ex g⟩, q ds p _ H1 S1 e1 ok⟩) x
theorem iw_tup (h : EW K cs W te G (fun x => ∃ ds, x = .tuple ds ∧ ι ds) ε) : IW K cs W (iTup K te) G ι ε := fun Wd B ad H0 H σ S R q x => h Wd B ad H0 H σ S _ (fun y ⟨ds, e, p⟩ v H1 S1 e1 d1 => by
  subst e
  obtain ⟨a, vs, rfl, g, ok⟩ := dp_itT d1
  exact ⟨a, rfl, ⟨vs, ex_t less_ex g⟩, q ds p _ H1 S1 e1 ok⟩) x
theorem iw_seq (h : EW K cs W te G (fun x => ∃ ds, itemsOf x = some ds ∧ ι ds) ε) : IW K cs W (iSeq K te) G ι ε := fun Wd B ad H0 H σ S R q x => h Wd B ad H0 H σ S _ (fun y ⟨ds, e, p⟩ v H1 S1 e1 d1 => by
  rcases items_cases e with rfl | rfl
  · obtain ⟨a, vs, rfl, g, ok⟩ := dp_itL d1
    exact ⟨a, rfl, .inl ⟨⟨vs, ex_l less_ex g⟩, q ds p _ H1 S1 e1 ok⟩⟩
  · obtain ⟨a, vs, rfl, g, ok⟩ := dp_itT d1
    exact ⟨a, rfl, .inr ⟨⟨vs, ex_t less_ex g⟩, q ds p _ H1 S1 e1 ok⟩⟩) x
theorem iw_rng1 {ta : TA} (h : AW K cs W ta G (fun xs => ∃ n : Int, xs = [.int n] ∧ (-1000000 ≤ n ∧ n ≤ 1000000) ∧ ι (rngD 0 n.toNat)) ε) : IW K cs W (iRng1 ta) G ι ε := fun Wd B ad H0 H σ S R q x => h Wd B ad H0 H σ S _ (fun xs ⟨n, e, hn, p⟩ vs H1 S1 e1 d1 => by
  subst e
  obtain ⟨v, rfl, d⟩ := dp1 d1
  cases d
  exact ⟨n, rfl, by omega, by omega, q _ p _ H1 S1 e1 it_rng⟩) x
/-! ### loops -/
/-- what is asked of a loop over ds: an invariant of the turn and the slots -/
noncomputable def ForI (K : Fg) (cs : Cs) (W : WX) (g : TG) (tb : TS) (G : Gam) (Φ : Out → Prop) (ds : List PyData) : Prop :=
  ∃ I : Nat → Gam → Prop, I 0 G ∧ (∀ i x G1, ds[i]? = some x → I i G1 → GW K g G1 x (fun Gt => SW K cs W tb Gt (lp (I (i + 1)) Φ))) ∧ ∀ G1, I ds.length G1 → Φ (.nx G1)
theorem sw_for {wi : TI} {g : TG} {tb : TS} (h : IW K cs W wi G (ForI K cs W g tb G Φ) (fun e => Φ (.ex e G))) : SW K cs W (tFor wi g tb) G Φ := fun Wd B ad H0 H σ D S q =>
  h Wd B ad H0 H σ S _ (fun ds ⟨I, i0, hs, hd⟩ J H1 S1 e1 ok => by
    refine ⟨fun i m σ' H' => m = ds.length - i ∧ i ≤ ds.length ∧ ∃ ad' G1, I i G1 ∧ Sta K Wd B ad' H0 H' σ' G1 ∧ Ex (less H1 (Zs Wd B ad G)) (less H' (Zs Wd B ad' G1)), ⟨ds.length, rfl, Nat.zero_le _, ad, G, i0, S1, Ex.refl _⟩, ?_⟩
    rintro i m σ' H' ⟨rfl, hi, ad', G1, hI, S', e'⟩
    obtain ⟨k1, k2, k3⟩ := ok H' (Zs Wd B ad' G1) S'.there e' i
    by_cases hlt : i < ds.length
    · have hx : ds[i]? = some ds[i] := List.getElem?_eq_getElem hlt
      refine .inr ⟨k1 _ hx, fun σ3 H3 => ∃ ad3 G3, I (i + 1) G3 ∧ Sta K Wd B ad3 H0 H3 σ3 G3 ∧ Ex (less H1 (Zs Wd B ad G)) (less H3 (Zs Wd B ad3 G3)), ?_, fun v H'' hy => ?_⟩
      · rintro σ3 H3 ⟨ad3, G3, h3, S3, e3⟩
        exact ⟨ds.length - (i + 1), by omega, rfl, hlt, ad3, G3, h3, S3, e3⟩
      · obtain ⟨ex, dx⟩ := k3 v H'' hy
        have S2 := S'.ext ex
        refine hs i _ G1 hx hI Wd B ad' H0 H'' σ' v S2 (dx _ hx) _ fun Gt ad2 H2 σ2 hb S3 e3 => ?_
        have e4 : Ex (less H1 (Zs Wd B ad G)) (less H2 (Zs Wd B ad2 Gt)) := (e'.trans (less_mono ex)).trans e3
        have e5 := (Xb.lz (W := Wd) (ad := ad) (G := G) e1).trans e4
        refine hb Wd B ad2 H0 H2 σ2 _ S3 fun o p => ?_
        cases o with
        | nx G4 => exact fun ad4 H4 σ4 S4 x4 => ⟨ad4, G4, p, S4, e4.trans x4⟩
        | ct G4 => exact fun ad4 H4 σ4 S4 x4 => ⟨ad4, G4, p, S4, e4.trans x4⟩
        | bk G4 => exact fun ad4 H4 σ4 S4 x4 => q _ p ad4 H4 σ4 S4 (e5.trans x4)
        | rt x => exact q _ p
        | rl c => exact q _ p
        | ex e G4 => exact fun d ad4 H4 σ4 S4 x4 => q _ p d ad4 H4 σ4 S4 (e5.trans x4)
    · have en : i = ds.length := by omega
      subst en
      exact .inl ⟨k2 (Nat.le_refl _), q _ (hd G1 hI) ad' H' σ' S' ((Xb.lz e1).trans e')⟩) (post_xp q)
/-- by what is done already -/
theorem forP {β : Type} {g : TG} {tb : TS} {xs : List β} {f : β → PyData} (I : List β → Gam → Prop) (h0 : I [] G) (hs : ∀ pre x post G1, xs = pre ++ x :: post → I pre G1 → GW K g G1 (f x) (fun Gt => SW K cs W tb Gt (lp (I (pre ++ [x])) Φ))) (he : ∀ G1, I xs G1 → Φ (.nx G1)) : ForI K cs W g tb G Φ (xs.map f) := by
  refine ⟨fun i G1 => I (xs.take i) G1, h0, fun i x G1 hx hI => ?_, fun G1 hI => he G1 (by rw [List.length_map, List.take_length] at hI; exact hI)⟩
  rw [List.getElem?_map] at hx
  cases hb : xs[i]? with
  | none => rw [hb] at hx; cases hx
  | some b =>
    rw [hb] at hx
    cases hx
    obtain ⟨hlt, hbe⟩ := List.getElem?_eq_some_iff.mp hb
    have e : xs = xs.take i ++ b :: xs.drop (i + 1) := by rw [← hbe, List.getElem_cons_drop, List.take_append_drop]
    have e2 : xs.take (i + 1) = xs.take i ++ [b] := by rw [List.take_succ, hb]; rfl
    show GW K g G1 (f b) (fun Gt => SW K cs W tb Gt (lp (fun G1 => I (xs.take (i + 1)) G1) Φ))
    rw [e2]
    exact hs _ b _ G1 e hI
theorem forP0 {g : TG} {tb : TS} {xs : List PyData} (I : List PyData → Gam → Prop) (h0 : I [] G) (hs : ∀ pre x post G1, xs = pre ++ x :: post → I pre G1 → GW K g G1 x (fun Gt => SW K cs W tb Gt (lp (I (pre ++ [x])) Φ))) (he : ∀ G1, I xs G1 → Φ (.nx G1)) : ForI K cs W g tb G Φ xs := by
  have k := forP (K := K) (cs := cs) (W := W) (g := g) (tb := tb) (Φ := Φ) (xs := xs) (f := fun x => x) I h0 hs he
  rw [List.map_id'] at k
  exact k
/-- a while loop: what holds at n before each asking, n going down -/
theorem sw_while {tb : TS} (I : Nat → Gam → Prop) (n : Nat) (h0 : I n G) (hs : ∀ n G1, I n G1 → TW K cs W t G1 (fun b => Cnd b (SW K cs W tb G1 (lp (fun G2 => ∃ m, m < n ∧ I m G2) Φ)) (Φ (.nx G1))) (fun e => Φ (.ex e G1))) : SW K cs W (tWhile t tb) G Φ := fun Wd B ad H0 H σ D S q => by
  refine ⟨fun m σ' H' => ∃ ad' G1, I m G1 ∧ Sta K Wd B ad' H0 H' σ' G1 ∧ Ex (less H (Zs Wd B ad G)) (less H' (Zs Wd B ad' G1)), ⟨n, ad, G, h0, S, Ex.refl _⟩, ?_⟩
  rintro m σ' H' ⟨ad', G1, hI, S', e'⟩
  refine hs m G1 hI Wd B ad' H0 H' σ' S' _ (fun b p H2 S2 e2 => ?_) (fun e he d H2 S2 x2 hd hx => q _ he d ad' H2 σ' S2 (e'.trans (Xb.lz x2)) hd hx)
  have e3 := e'.trans (Xb.lz e2)
  cases b with
  | false => exact iteF (q _ (p.2 rfl) ad' H2 σ' S2 e3)
  | true =>
    refine iteT ⟨fun σ3 H3 => ∃ m' ad3 G3, m' < m ∧ I m' G3 ∧ Sta K Wd B ad3 H0 H3 σ3 G3 ∧ Ex (less H (Zs Wd B ad G)) (less H3 (Zs Wd B ad3 G3)), ?_, ?_⟩
    · rintro σ3 H3 ⟨m', ad3, G3, hm, h3, S3, x3⟩
      exact ⟨m', hm, ad3, G3, h3, S3, x3⟩
    · refine p.1 rfl Wd B ad' H0 H2 σ' _ S2 fun o p => ?_
      cases o with
      | nx G4 => obtain ⟨m', hm, p⟩ := p; exact fun ad4 H4 σ4 S4 x4 => ⟨m', ad4, G4, hm, p, S4, e3.trans x4⟩
      | ct G4 => obtain ⟨m', hm, p⟩ := p; exact fun ad4 H4 σ4 S4 x4 => ⟨m', ad4, G4, hm, p, S4, e3.trans x4⟩
      | bk G4 => exact fun ad4 H4 σ4 S4 x4 => q _ p ad4 H4 σ4 S4 (e3.trans x4)
      | rt x => exact q _ p
      | rl c => exact q _ p
      | ex e G4 => exact fun d ad4 H4 σ4 S4 x4 => q _ p d ad4 H4 σ4 S4 (e3.trans x4)
end
end U.N

end
section
namespace U.N
open PySem PyProof.Rows L2 Evl
inductive All2 {α β : Type} (R : α → β → Prop) : List α → List β → Prop
  | nil : All2 R [] []
  | cons {x : α} {y : β} {xs : List α} {ys : List β} : R x y → All2 R xs ys → All2 R (x :: xs) (y :: ys)
namespace All2
variable {α β γ : Type} {R : α → β → Prop}
theorem len : ∀ {xs : List α} {ys : List β}, All2 R xs ys → xs.length = ys.length
  | _, _, .nil => rfl
  | _, _, .cons _ t => congrArg (· + 1) t.len
theorem eq_map {f : α → β} : ∀ {xs : List α} {ys : List β}, All2 (fun x y => y = f x) xs ys → ys = xs.map f
  | _, _, .nil => rfl
  | _, _, .cons a t => by rw [a, t.eq_map]; rfl
theorem mem_r : ∀ {xs : List α} {ys : List β}, All2 R xs ys → ∀ y ∈ ys, ∃ x ∈ xs, R x y
  | _, _, .nil, y, h => by cases h
  | _, _, .cons a t, y, h => by
    rcases List.mem_cons.mp h with rfl | h
    · exact ⟨_, List.mem_cons_self .., a⟩
    · obtain ⟨x, hx, r⟩ := t.mem_r y h
      exact ⟨x, List.mem_cons_of_mem _ hx, r⟩
/-- y's that all are of one form -/
theorem exists_map {δ : Type} {g : δ → β} {P : α → δ → Prop} : ∀ {xs : List α} {ys : List β}, All2 (fun x y => ∃ d, y = g d ∧ P x d) xs ys → ∃ ds : List δ, ys = ds.map g ∧ All2 P xs ds
  | _, _, .nil => ⟨[], rfl, .nil⟩
  | _, _, .cons ⟨d, e, p⟩ t => by
    obtain ⟨ds, e2, p2⟩ := t.exists_map
    exact ⟨d :: ds, by rw [e, e2]; rfl, .cons p p2⟩
end All2
section
variable {K : Fg} {cs : Cs} {W : WX} {G G' G1 G2 : Gam} {ta tb tc te : TE} {t u tt tt1 : TT} {φ : PyData → Prop} {ε : Xw → Prop} {ψ : Bool → Prop} {α : List PyData → Prop} {ι : List PyData → Prop} {χ : Own → Prop} {Φ Ψ : Out → Prop}
variable {Wd : Addr → Prop} {B : Option (Addr × Addr)} {ad : Nat → Addr} {H0 H H1 H2 : Hp} {σ σ' : St} {vs vs1 : List Nat} {wi wi1 : TI} {g g1 : TG}
noncomputable abbrev noX : Xw → Prop := fun _ => False
theorem xp_no : XP K cs W Wd B ad H0 H σ G noX := fun _ h => h.elim
theorem Sta.slots (S : Sta K Wd B ad H0 H σ G) (hl : G.length = G'.length) (ho : ∀ i, i ∉ vs → G'[i]? = G[i]?) (hu : ∀ i e, i ∈ vs → G'[i]? = some e → e = .un) (hg : ∀ i c, i ∈ vs → G[i]? ≠ some (.ow c)) (hw : wipe σ vs = wipe σ' vs) : Sta K Wd B ad H0 H σ' G' := qt_of (by simp (disch := with_unfolding_all
  have hls : σ.length = σ'.length := by
    have := congrArg List.length hw
    rw [wipe_length, wipe_length] at this
    exact this
  have own : ∀ (i : Nat) (c : Own), G'[i]? = some (En.ow c) ↔ G[i]? = some (En.ow c) := fun i c => by
    by_cases hi : i ∈ vs
    · exact ⟨fun g => absurd (hu i _ hi g) (fun e => by cases e), fun g => absurd g (hg i c hi)⟩
    · rw [ho i hi]
  have zl : Zs Wd B ad G' = Zs Wd B ad G := funext fun a => propext (by
    constructor
    · rintro (z | ⟨i, c, g, r⟩ | z)
      · exact .inl z
      · exact .inr (.inl ⟨i, c, (own i c).mp g, r⟩)
      · exact .inr (.inr z)
    · rintro (z | ⟨i, c, g, r⟩ | z)
      · exact .inl z
      · exact .inr (.inl ⟨i, c, (own i c).mpr g, r⟩)
      · exact .inr (.inr z))
  refine ⟨hls ▸ (S.len.trans hl), fun i e g => ?_, fun i j c c' g g' q => S.inj i j c c' ((own i c).mp g) ((own j c').mp g') q, fun i c g => S.sep i c ((own i c).mp g), S.base, S.bag, S.wd⟩
  by_cases hi : i ∈ vs
  · have e := hu i e hi g
    subst e
    have il : i < σ'.length := by rw [← hls, S.len, hl]; exact (List.getElem?_eq_some_iff.mp g).1
    exact ⟨σ'[i], List.getElem?_eq_getElem il, trivial⟩
  · rw [ho i hi] at g
    obtain ⟨o, g1, g2⟩ := S.at_ i e g
    refine ⟨o, ?_, by rw [zl]; exact g2⟩
    rw [← wipe_get hi, ← hw, wipe_get hi]
    exact g1
  ) only [↓qt_eq])
theorem zs_same {G' : Gam} (hl : ∀ (i : Nat) (c : Own), G'[i]? = some (En.ow c) ↔ G[i]? = some (En.ow c)) : Zs Wd B ad G' = Zs Wd B ad G := funext fun a => propext (by
  constructor
  · rintro (z | ⟨i, c, g, r⟩ | z)
    · exact .inl z
    · exact .inr (.inl ⟨i, c, (hl i c).mp g, r⟩)
    · exact .inr (.inr z)
  · rintro (z | ⟨i, c, g, r⟩ | z)
    · exact .inl z
    · exact .inr (.inl ⟨i, c, (hl i c).mpr g, r⟩)
    · exact .inr (.inr z))
theorem zs_lend {p : Addr} : Zs (fun a => Wd a ∨ a = p) B ad G = fun a => Zs Wd B ad G a ∨ a = p := funext fun a => propext (by
  constructor
  · rintro ((z | z) | z | z)
    · exact .inl (.inl z)
    · exact .inr z
    · exact .inl (.inr (.inl z))
    · exact .inl (.inr (.inr z))
  · rintro ((z | z | z) | z)
    · exact .inl (.inl z)
    · exact .inr (.inl z)
    · exact .inr (.inr z)
    · exact .inl (.inr z))
noncomputable def opts (os : List (Option PyData)) : List PyData := os.filterMap id
theorem opts_snoc {os : List (Option PyData)} {o : Option PyData} : opts (os ++ [o]) = opts os ++ o.toList := by
  unfold opts
  rw [List.filterMap_append]
  cases o <;> rfl
theorem opts_len (os : List (Option PyData)) : (opts os).length ≤ os.length := List.length_filterMap_le ..
/-- one for each turn -/
noncomputable def Each {β : Type} (R : Nat → β → Prop) (n : Nat) (os : List β) : Prop := os.length = n ∧ ∀ i o, os[i]? = some o → R i o
theorem each_nil {β : Type} {R : Nat → β → Prop} : Each R 0 [] := ⟨rfl, fun i o h => by simp at h⟩
theorem Each.snoc {β : Type} {R : Nat → β → Prop} {n : Nat} {os : List β} {o : β} (h : Each R n os) (r : R n o) : Each R (n + 1) (os ++ [o]) := by
  refine ⟨by simp [h.1], fun i o' hi => ?_⟩
  by_cases hl : i < os.length
  · rw [List.getElem?_append_left hl] at hi
    exact h.2 i o' hi
  · rw [List.getElem?_append_right (by omega)] at hi
    have e : i - os.length = 0 := by
      have := (List.getElem?_eq_some_iff.mp hi).1
      simp at this
      omega
    rw [e] at hi
    cases hi
    have : i = n := by have := h.1; omega
    rw [this]; exact r
theorem Each.all2 {α β : Type} {R : Nat → β → Prop} : ∀ {xs : List α} {os : List β}, Each R xs.length os → ∀ {S : α → β → Prop}, (∀ i x o, xs[i]? = some x → R i o → S x o) → All2 S xs os := fun {xs} => by
  induction xs generalizing R with
  | nil =>
    intro os h S m
    have := h.1
    have e : os = [] := List.eq_nil_of_length_eq_zero this
    rw [e]; exact .nil
  | cons x xs ih =>
    intro os h S m
    cases os with
    | nil => have := h.1; simp at this
    | cons o os =>
      refine .cons (m 0 x o rfl (h.2 0 o rfl)) (ih (R := fun i => R (i + 1)) ⟨by have := h.1; simpa using this, fun i o' hi => h.2 (i + 1) o' hi⟩ fun i x o hx r => m (i + 1) x o hx r)
/-- the names that the comprehension sets are of no use before -/
noncomputable def Unk (vs : List Nat) (G : Gam) : Prop := ∀ i e, i ∈ vs → G[i]? = some e → e = .un
noncomputable def LcI (K : Fg) (cs : Cs) (W : WX) (g : TG) (tt : TT) (te : TE) (vs : List Nat) (G : Gam) (χ : Own → Prop) (ds : List PyData) : Prop :=
  ds.length ≤ 16000000 ∧ Unk vs G ∧ ∃ R : Nat → Option PyData → Prop, (∀ i x, ds[i]? = some x → GC K g vs G x (fun Gt => TW K cs W tt Gt (fun b => Cnd b (EW K cs W te Gt (fun y => R i (some y)) noX) (R i none)) noX)) ∧ ∀ os, Each R ds.length os → χ (ol (opts os))
theorem ef_lc (h : IW K cs W wi G (LcI K cs W g tt te vs G χ) ε) : EF K cs W (tLc wi g tt te vs) G χ ε := fun Wd B ad H0 H σ S Q q x =>
  h Wd B ad H0 H σ S _ (fun ds ⟨hz, hu, R, hs, hd⟩ J H1 S1 e1 ok Dl hD => by
    have hgu : ∀ i c, i ∈ vs → G[i]? ≠ some (.ow c) := fun i c hi g => by cases hu i _ hi g
    obtain ⟨L0, el0⟩ := S1.lend (o := .lst []) hD
    have fr := S1.fresh hD
    refine ⟨fun i m H' => m = ds.length - i ∧ i ≤ ds.length ∧ Sta K (fun a => Wd a ∨ a = Dl) B ad H0 H' σ G ∧ Ex (less H1 (Zs Wd B ad G)) (less H' (Zs (fun a => Wd a ∨ a = Dl) B ad G)) ∧ Xb B H1 H' ∧
      ∃ os acc, Each R i os ∧ H' Dl = some (.lst acc) ∧ DpAll K (less H' (Zs (fun a => Wd a ∨ a = Dl) B ad G)) acc (opts os), ⟨ds.length, rfl, Nat.zero_le _, L0, by rw [el0]; exact Ex.refl _, .of (Ex.new hD), [], [], each_nil, upd_same, .nil⟩, ?_⟩
    rintro i m H' ⟨rfl, hi, S', e', xb, os, acc, ha2, ha, hda⟩
    obtain ⟨k1, k2, k3⟩ := ok H' (Zs (fun a => Wd a ∨ a = Dl) B ad G) S'.there e' i
    by_cases hlt : i < ds.length
    · have hx : ds[i]? = some ds[i] := List.getElem?_eq_getElem hlt
      refine .inr ⟨k1 _ hx, fun H3 => Sta K (fun a => Wd a ∨ a = Dl) B ad H0 H3 σ G ∧ Ex (less H1 (Zs Wd B ad G)) (less H3 (Zs (fun a => Wd a ∨ a = Dl) B ad G)) ∧ Xb B H1 H3 ∧
        ∃ os acc, Each R (i + 1) os ∧ H3 Dl = some (.lst acc) ∧ DpAll K (less H3 (Zs (fun a => Wd a ∨ a = Dl) B ad G)) acc (opts os), fun H3 h3 => ⟨ds.length - (i + 1), by omega, rfl, hlt, h3⟩, fun v H'' hyl => ?_⟩
      obtain ⟨ex, dx⟩ := k3 v H'' hyl
      have S2 := (S'.ext ex).slots (σ' := wipe σ vs) (G' := G) (vs := vs) rfl (fun _ _ => rfl) hu hgu wipe_wipe.symm
      refine hs i _ hx _ B ad H0 H'' _ v S2 (dx _ hx) _ fun Gt σ2 hte hl ho hw S3 e3 ew => ⟨by rw [ew, wipe_wipe], ?_⟩
      have own : ∀ (i : Nat) (c : Own), Gt[i]? = some (En.ow c) ↔ G[i]? = some (En.ow c) := fun i c => by
        by_cases hi : i ∈ vs
        · exact ⟨fun g => hw i c hi g, fun g => absurd g (hgu i c hi)⟩
        · rw [ho i hi]
      have eZ : Zs (fun a => Wd a ∨ a = Dl) B ad Gt = Zs (fun a => Wd a ∨ a = Dl) B ad G := zs_same own
      have back : ∀ {H5 : Hp}, Sta K (fun a => Wd a ∨ a = Dl) B ad H0 H5 σ2 Gt → Sta K (fun a => Wd a ∨ a = Dl) B ad H0 H5 σ G := fun {H5} S5 =>
        S5.slots (G' := G) (vs := vs) hl.symm (fun i hi => (ho i hi).symm) hu (fun i c hi g => hgu i c hi (hw i c hi g)) (by rw [ew, wipe_wipe])
      have hB : ¬ InB B Dl := fr.2.1
      have ha3 : H'' Dl = some (.lst acc) := ex _ _ ha
      have al : acc.length < sizeLine := by
        have h1 := dpa_len hda
        have h2 := opts_len os
        have h3 := ha2.1
        exact Nat.lt_of_lt_of_le (show acc.length < 16777216 by omega) (by decide)
      refine hte _ B ad H0 H'' σ2 S3 _ (fun b p H3 S4 e4 => ?_) xp_no
      have e4' : Ex (less H'' (Zs (fun a => Wd a ∨ a = Dl) B ad G)) (less H3 (Zs (fun a => Wd a ∨ a = Dl) B ad G)) := by
        have := Xb.lz (W := fun a => Wd a ∨ a = Dl) (ad := ad) (G := G) e4
        exact this
      have e5 : Ex (less H' (Zs (fun a => Wd a ∨ a = Dl) B ad G)) (less H3 (Zs (fun a => Wd a ∨ a = Dl) B ad G)) := (less_mono ex).trans e4'
      cases b with
      | false =>
        refine iteF ⟨back S4, e'.trans e5, (xb.trans (.of ex)).trans e4, os ++ [none], acc, ?_, e4 _ _ ha3 hB, ?_⟩
        · exact ha2.snoc (p.2 rfl)
        · rw [opts_snoc]
          show DpAll K _ acc (_ ++ [])
          rw [List.append_nil]
          exact dpa_mono e5 hda
      | true =>
        refine iteT ?_
        refine p.1 rfl _ B ad H0 H3 σ2 S4 _ (fun y py w H4 S5 e6 dw => ?_) xp_no
        rw [eZ] at dw
        have S6 := back S5
        obtain ⟨S7, el7⟩ := S6.foreign (o := .lst (acc ++ [w])) (p := Dl) (.inr rfl) fr.1 hB
        have e6' := Xb.lz (W := fun a => Wd a ∨ a = Dl) (ad := ad) (G := G) e6
        refine ⟨acc, e6 _ _ (e4 _ _ ha3 hB) hB, al, S7, ?_, ?_, os ++ [some y], acc ++ [w], ?_, upd_same, ?_⟩
        · rw [el7]
          exact e'.trans (e5.trans e6')
        · intro a o g n
          have na : a ≠ Dl := ne_of_none g hD
          rw [upd_ne na]
          exact ((((xb.trans (.of ex)).trans e4).trans e6) a o g n)
        · exact ha2.snoc py
        · rw [el7, opts_snoc]
          exact dpa_app (dpa_mono (e5.trans e6') hda) (.cons dw .nil)
    · have en : i = ds.length := by omega
      subst en
      obtain ⟨S5, e5⟩ := S'.back
      obtain ⟨S6, x6, n6, l6⟩ := fl_go S1 xb S'.bag hD ha
      refine .inl ⟨k2 (Nat.le_refl _), ?_⟩
      have k := q _ (hd os ha2) Dl acc _ S6 (e1.trans x6) n6 (by rw [l6, ← zs_lend]; exact hda)
      have k2 : Q (.ref Dl) (upd (less H' fun b => b = Dl) Dl (.lst acc)) := k
      rw [fl_upd ha] at k2
      exact k2) x
theorem ew_lc (h : IW K cs W wi G (LcI K cs W g tt te vs G (fun c => ∃ xs, c = ol xs ∧ φ (.list xs))) ε) : EW K cs W (tLc wi g tt te vs) G φ ε := ew_ef (ef_lc h)
theorem opts_map {β : Type} {f : β → PyData} : ∀ {xs : List β} {os : List (Option PyData)}, All2 (fun x o => o = some (f x)) xs os → opts os = xs.map f
  | _, _, .nil => rfl
  | x :: xs, _, .cons a t => by
    rw [a]
    show f x :: opts _ = _
    rw [opts_map t]; rfl
theorem opts_filter {β : Type} {p : β → Bool} {f : β → PyData} : ∀ {xs : List β} {os : List (Option PyData)}, All2 (fun x o => o = if p x then some (f x) else none) xs os → opts os = (xs.filter p).map f
  | _, _, .nil => rfl
  | x :: xs, _, .cons a t => by
    have ih := opts_filter t
    cases h : p x with
    | true =>
      rw [a, List.filter_cons, h, if_pos rfl, if_pos rfl]
      show f x :: opts _ = _
      rw [ih]; rfl
    | false =>
      rw [a, List.filter_cons, h, if_neg (by decide), if_neg (by decide)]
      show opts _ = _
      exact ih
variable {β : Type} {xs : List β} {f : β → PyData}
theorem map_at {i : Nat} {x : PyData} (h : (xs.map f)[i]? = some x) : ∃ b, xs[i]? = some b ∧ f b = x ∧ b ∈ xs := by
  rw [List.getElem?_map] at h
  cases hb : xs[i]? with
  | none => rw [hb] at h; cases h
  | some b => rw [hb] at h; exact ⟨b, rfl, Option.some.inj h, List.mem_of_getElem? hb⟩
theorem gc_mono {x : PyData} {γ γ' : Gam → Prop} (h : GC K g vs G x γ) (m : ∀ G', γ G' → γ' G') : GC K g vs G x γ' := fun Wd B ad H0 H σ v S d Q q => h Wd B ad H0 H σ v S d Q fun G' σ' k => q G' σ' (m G' k)
/-- [.. for x in xs if ..], each turn by a relation -/
theorem lcR0 (R : β → Option PyData → Prop) (hz : xs.length ≤ 16000000) (hu : Unk vs G) (hs : ∀ x, x ∈ xs → GC K g vs G (f x) (fun Gt => TW K cs W tt Gt (fun b => Cnd b (EW K cs W te Gt (fun y => R x (some y)) noX) (R x none)) noX)) (p : ∀ os, All2 R xs os → χ (ol (opts os))) : LcI K cs W g tt te vs G χ (xs.map f) := by
  refine ⟨by rw [List.length_map]; exact hz, hu, fun i o => ∃ b, xs[i]? = some b ∧ R b o, fun i x hx => ?_, fun os ha => ?_⟩
  · obtain ⟨b, hb, rfl, hm⟩ := map_at hx
    exact gc_mono (hs b hm) fun Gt k => tw_mono k fun c q => ⟨fun hc => ew_mono (q.1 hc) fun y r => ⟨b, hb, r⟩, fun hc => ⟨b, hb, q.2 hc⟩⟩
  · rw [List.length_map] at ha
    exact p os (ha.all2 fun i x o hx ⟨b, hb, r⟩ => by rw [hx] at hb; cases hb; exact r)
/-- [h x for x in xs] -/
theorem lcM (h : β → PyData) (hz : xs.length ≤ 16000000) (hu : Unk vs G) (hs : ∀ x, x ∈ xs → GC K g vs G (f x) (fun Gt => EW K cs W te Gt (fun y => y = h x) noX)) (p : χ (ol (xs.map h))) : LcI K cs W g tYes te vs G χ (xs.map f) :=
  lcR0 (fun x o => o = some (h x)) hz hu (fun x hx => gc_mono (hs x hx) fun Gt k => tw_yes (cnd_t (ew_mono k fun y e => by rw [e]))) fun os ha => by rw [opts_map ha]; exact p
/-- [h x for x in xs if p x] -/
theorem lcF (pt : β → Bool) (h : β → PyData) (hz : xs.length ≤ 16000000) (hu : Unk vs G) (hs : ∀ x, x ∈ xs → GC K g vs G (f x) (fun Gt => TW K cs W tt Gt (fun b => b = pt x ∧ (b = true → EW K cs W te Gt (fun y => y = h x) noX)) noX)) (p : χ (ol ((xs.filter pt).map h))) : LcI K cs W g tt te vs G χ (xs.map f) :=
  lcR0 (fun x o => o = if pt x then some (h x) else none) hz hu (fun x hx => gc_mono (hs x hx) fun Gt k => tw_mono k fun b ⟨e, q⟩ => ⟨fun hb => ew_mono (q hb) fun y ey => by rw [← e, hb, ey]; rfl, fun hb => by rw [← e, hb]; rfl⟩) fun os ha => by rw [opts_filter ha]; exact p
/-- [.. for x in xs], each by a relation (draws) -/
theorem lcR (R : β → PyData → Prop) (hz : xs.length ≤ 16000000) (hu : Unk vs G) (hs : ∀ x, x ∈ xs → GC K g vs G (f x) (fun Gt => EW K cs W te Gt (fun y => R x y) noX)) (p : ∀ ys, All2 R xs ys → χ (ol ys)) : LcI K cs W g tYes te vs G χ (xs.map f) :=
  lcR0 (fun x o => ∃ y, o = some y ∧ R x y) hz hu (fun x hx => gc_mono (hs x hx) fun Gt k => tw_yes (cnd_t (ew_mono k fun y r => ⟨y, rfl, r⟩))) fun os ha => by
    obtain ⟨ys, e, h2⟩ := ha.exists_map
    rw [e]
    have : opts (ys.map some) = ys := by
      unfold opts
      rw [List.filterMap_map]
      show ys.filterMap some = ys
      exact List.filterMap_some
    rw [this]
    exact p ys h2
/-- [.. for x in xs], each drawn -/
theorem lcD {δ : Type} (gd : δ → PyData) (P : δ → Prop) (hz : xs.length ≤ 16000000) (hu : Unk vs G) (hs : ∀ x, x ∈ xs → GC K g vs G (f x) (fun Gt => EW K cs W te Gt (fun y => ∃ d, y = gd d ∧ P d) noX)) (p : ∀ ds : List δ, ds.length = xs.length → (∀ d ∈ ds, P d) → χ (ol (ds.map gd))) : LcI K cs W g tYes te vs G χ (xs.map f) :=
  lcR (fun _ y => ∃ d, y = gd d ∧ P d) hz hu hs fun ys ha => by
    obtain ⟨ds, e, h2⟩ := ha.exists_map
    rw [e]
    exact p ds h2.len.symm fun d hd => by obtain ⟨x, _, h⟩ := h2.mem_r d hd; exact h
end
end U.N

end
section
namespace U.N
open PySem PyProof.Rows L2 Evl
section
variable {K : Fg} {cs : Cs} {W : WX} {G G' G1 G2 : Gam} {ta tb tc te : TE} {φ : PyData → Prop} {ε : Xw → Prop} {Φ Ψ : Out → Prop}
variable {Wd : Addr → Prop} {B : Option (Addr × Addr)} {ad : Nat → Addr} {H0 H H1 H2 : Hp} {σ σ' : St}
/-! ### raising -/
theorem ew_xf {i : Nat} {a dd C : Addr} {fs : List (Str × V)} {n : Str} {v : V} {x : PyData} (hi : G[i]? = some (.xc a dd fs)) (hl : fs.lookup n = some v) (hd : ∀ H, Dp K H v x) (p : φ x) : EW K cs W (tXf a (.ref C) (some dd) C n (tVar i)) G φ ε := fun Wd B ad H0 H σ S Q q _ => by
  obtain ⟨o, g1, rfl, g2⟩ := S.at_ i _ hi
  exact ⟨_, g1, rfl, rfl, dd, fs, v, rfl, (less_some g2).2, hl, q _ p _ H S Xb.refl (hd _)⟩
theorem ew_xfS {i : Nat} {a dd C : Addr} {fs : List (Str × V)} {n : Str} {v : Str} (hi : G[i]? = some (.xc a dd fs)) (hl : fs.lookup n = some (.str v)) (p : φ (.str v)) : EW K cs W (tXf a (.ref C) (some dd) C n (tVar i)) G φ ε := ew_xf hi hl (fun _ => .str v) p
theorem sw_raise0 {c : Str} {nm : List Str} {g : List V → Option (List (Str × V))} {fs : List (Str × V)} (cf : ClsF K cs c nm) (hg : g [] = some fs) (h : Φ (.ex ⟨c, fs⟩ G)) : SW K cs W (tRaiseX (cs c) (spIn K nm g) [] tNil W) G Φ := fun Wd B ad H0 H σ D S q => by
  refine mk_read cf.ox cf.no ⟨by show 0 ≤ 1000; decide, hg, fun d hd => ?_⟩ (fun Q1 Q2 m h => m _ _ h)
  have e : Ex H (upd H d (.xd fs)) := Ex.new hd
  exact q _ h d ad _ σ (S.ext e) (less_mono e) (S.fresh hd).1 (less_of (S.fresh hd).2.2 upd_same)
/-! ### try .. except C as why -/
noncomputable def hq (i : Nat) (Φ : Out → Prop) : Out → Prop
  | .nx G => Φ (.nx (G.set i .un))
  | .bk G => Φ (.bk (G.set i .un))
  | .ct G => Φ (.ct (G.set i .un))
  | .rt x => Φ (.rt x)
  | .rl c => Φ (.rl c)
  | .ex _ _ => False
theorem un_ex {i : Nat} : Ex (less H (Zs Wd B ad G)) (less H (Zs Wd B ad (G.set i .un))) := less_sub fun a z => Zs.set_of (fun _ z => by cases z) z
end
/-! ### several clauses -/
noncomputable def hdN (K : Fg) (cs : Cs) (W : WX) (Φ : Out → Prop) : List Hd → Xw → Gam → Prop
  | [], _, _ => False
  | (c, i, ts) :: r, e, G => ∃ b, PySem.W.exmOne K (.ref (cs e.cls)) c = some b ∧ Cnd b (∀ a d, SW K cs W (ts a (.ref (cs e.cls)) (some d)) (G.set i (.xc a d e.fs)) (hq i Φ)) (hdN K cs W Φ r e G)
noncomputable def tqN (K : Fg) (cs : Cs) (W : WX) (l : List Hd) (Φ : Out → Prop) : Out → Prop
  | .ex e G => hdN K cs W Φ l e G
  | .nx G => Φ (.nx G)
  | .bk G => Φ (.bk G)
  | .ct G => Φ (.ct G)
  | .rt x => Φ (.rt x)
  | .rl c => Φ (.rl c)
section
variable {K : Fg} {cs : Cs} {W : WX} {G : Gam} {Φ : Out → Prop}
theorem sw_tryN {tb : WX → TS} {l : List Hd} (h : ∀ W', SW K cs W' (tb W') G (tqN K cs W l Φ)) : SW K cs W (tTryN K tb l) G Φ := fun Wd B ad H0 H σ D S q => by
  refine h _ Wd B ad H0 H σ D S fun o p => ?_
  cases o with
  | nx G1 => exact q _ p
  | bk G1 => exact q _ p
  | ct G1 => exact q _ p
  | rt x => exact q _ p
  | rl x => exact q _ p
  | ex e G1 =>
    intro d ad1 H1 σ1 S1 e1 hn hx
    have p : hdN K cs W Φ l e G1 := p
    show wManyAs K (fun _ _ _ _ => False) D l (.ref (cs e.cls)) (some d) σ1 H1
    clear h
    induction l with
    | nil => exact p.elim
    | cons x r ih =>
      obtain ⟨c, i, ts⟩ := x
      obtain ⟨b, hm, p⟩ := p
      refine ⟨b, hm, fun hb a ha => ?_, fun hb => ih (p.2 hb) (p.2 hb)⟩
      have S2 : Sta K Wd B ad1 H0 H1 (σ1.set i (some (.ref a))) (G1.set i (.xc a d e.fs)) := S1.set (fun _ z => by cases z) ⟨rfl, hx⟩
      have e2 : Ex (less H (Zs Wd B ad G)) (less H1 (Zs Wd B ad1 (G1.set i (.xc a d e.fs)))) := e1.trans (less_sub fun a z => Zs.set_of (fun _ z => by cases z) z)
      refine p.1 hb a d Wd B ad1 H0 H1 _ _ S2 fun o po => ?_
      cases o with
      | nx G3 => exact fun ad3 H3 σ3 S3 e3 => q _ po ad3 H3 _ S3.setU ((e2.trans e3).trans un_ex)
      | bk G3 => exact fun ad3 H3 σ3 S3 e3 => q _ po ad3 H3 _ S3.setU ((e2.trans e3).trans un_ex)
      | ct G3 => exact fun ad3 H3 σ3 S3 e3 => q _ po ad3 H3 _ S3.setU ((e2.trans e3).trans un_ex)
      | rt x => exact q _ po
      | rl x => exact q _ po
      | ex e G3 => exact po.elim
end
/-! ### defs -/
noncomputable def rts0 (A : Rs → Prop) : Out → Prop
  | .rt x => A (.ok x)
  | .rl c => A (.fl c)
  | .nx _ => A (.ok .none)
  | _ => False
noncomputable def rts (A : Rs → Prop) : Out → Prop
  | .rt x => A (.ok x)
  | .rl c => A (.fl c)
  | .nx _ => A (.ok .none)
  | .ex e _ => A (.er e)
  | _ => False
noncomputable def frame (n : Nat) (ds : List PyData) : Gam := ds.map .d ++ List.replicate (n - ds.length) .un
section
variable {Pg : Program} {w : World} {K : Fg} {mg : Str → Option Value} {base : Heap} {cs : Cs}
theorem frame_get {n i : Nat} {ds : List PyData} {e : En} (h : (frame n ds)[i]? = some e) : (∃ d, ds[i]? = some d ∧ e = .d d) ∨ (ds.length ≤ i ∧ e = .un) := qt_of (by simp (disch := with_unfolding_all
  unfold frame at h
  by_cases hi : i < ds.length
  · rw [List.getElem?_append_left (by rw [List.length_map]; exact hi), List.getElem?_map, List.getElem?_eq_getElem hi] at h
    exact .inl ⟨ds[i], List.getElem?_eq_getElem hi, (Option.some.inj h).symm⟩
  · have hi : ds.length ≤ i := by omega
    rw [List.getElem?_append_right (by rw [List.length_map]; exact hi)] at h
    exact .inr ⟨hi, (List.mem_replicate.mp (List.mem_of_getElem? h)).2⟩
  ) only [↓qt_eq])
theorem frame_len {n : Nat} {ds : List PyData} : (frame n ds).length = ds.length + (n - ds.length) := by
  unfold frame
  rw [List.length_append, List.length_map, List.length_replicate]
theorem bag_ok0 : Bag.ok ⟨[], 0, 0⟩ := ⟨by simp, by decide, by decide⟩
/-- the state at a def's entry -/
theorem sta0 {N : List Str} {Wd : Addr → Prop} {H : Hp} {vs : List V} {ds : List PyData} (hW : ∀ a, Wd a → ∃ o, H a = some o) (hd : DpAll K (less H Wd) vs ds) : Sta K Wd none (fun _ => 0) H H (L2.start N vs) (frame N.length ds) := qt_of (by simp (disch := with_unfolding_all
  have no : ∀ (i : Nat) (c : Own), (frame N.length ds)[i]? ≠ some (En.ow c) := fun i c h => by
    rcases frame_get h with ⟨d, _, e⟩ | ⟨_, e⟩ <;> cases e
  have zz : ∀ a, Zs Wd none (fun _ => 0) (frame N.length ds) a → Wd a := by
    rintro a (z | ⟨i, c, g, _⟩ | ⟨b, c, z, _⟩)
    · exact z
    · exact absurd g (no i c)
    · cases z
  refine ⟨?_, fun i e h => ?_, fun i j c c' g => absurd g (no i c), fun i c g => absurd g (no i c), fun a o h _ => h, ⟨_, bag_ok0, trivial⟩, hW⟩
  · rw [start_len, dpa_len hd, frame_len]
  · rcases frame_get h with ⟨d, hi, rfl⟩ | ⟨hi, rfl⟩
    · obtain ⟨v, hv, dv⟩ := dpa_get hd hi
      exact ⟨some v, start_get hv, v, rfl, dp_mono (less_sub zz) dv⟩
    · have il : i < (L2.start N vs).length := by
        rw [start_len, dpa_len hd]
        have := (List.getElem?_eq_some_iff.mp h).1
        rw [frame_len] at this
        exact this
      exact ⟨(L2.start N vs)[i], List.getElem?_eq_getElem il, trivial⟩
  ) only [↓qt_eq])
theorem xb_none {H H' : Hp} (h : Xb none H H') : Ex H H' := fun a o g => h a o g fun ⟨_, _, z, _⟩ => by cases z
theorem sz_none {Wd : Addr → Prop} {H : Hp} : (less H fun a => Wd a ∨ InB none a) = less H Wd := congrArg (less H) (funext fun a => propext ⟨fun z => z.elim id (fun ⟨_, _, z, _⟩ => (by cases z)), Or.inl⟩)
theorem run0 {N : List Str} {Wd : Addr → Prop} {H : Hp} {vs : List V} {ds : List PyData} {A : Rs → Prop} {t : TS} {Q : VK} (hW : ∀ a, Wd a → ∃ o, H a = some o) (hd : DpAll K (less H Wd) vs ds) (h : SW K cs W0 t (frame N.length ds) (rts0 A)) (q : okRs H K Wd Q A) :
    t { nx := fun _ H' => Q .non H', rt := Q } (L2.start N vs) H := qt_of (by simp (disch := with_unfolding_all
  refine h Wd none (fun _ => 0) H H _ _ (sta0 hW hd) fun o p => ?_
  cases o with
  | rt x => exact fun v H' e _ d => q.1 x p v H' (xb_none e) (by rw [sz_none] at d; exact d)
  | rl c => exact fun a us H' e _ hn ho d => q.2 c p a us H' (xb_none e) hn ho (dpa_mono (less_sub fun b z => by rcases z with z | z; exact .inl (.inl z); exact .inr z) d)
  | nx G => exact fun ad H' σ S _ => q.1 _ p _ H' (xb_none fun a o h n => S.base a o h n) .non
  | bk G => exact p.elim
  | ct G => exact p.elim
  | ex e G => exact p.elim
  ) only [↓qt_eq])
theorem runX {N : List Str} {Wd : Addr → Prop} {H : Hp} {vs : List V} {ds : List PyData} {A : Rs → Prop} {t : TS} {Q : VK} {E : XK} (hW : ∀ a, Wd a → ∃ o, H a = some o) (hd : DpAll K (less H Wd) vs ds) (h : SW K cs (WD E) t (frame N.length ds) (rts A)) (q : okRs H K Wd Q A) (x : ∀ e, A (.er e) → ∀ d H', Ex H H' → H d = none → H' d = some (.xd e.fs) → E (.ref (cs e.cls)) (some d) H') :
    t { nx := fun _ H' => Q .non H', rt := Q } (L2.start N vs) H := qt_of (by simp (disch := with_unfolding_all
  refine h Wd none (fun _ => 0) H H _ _ (sta0 hW hd) fun o p => ?_
  cases o with
  | rt x => exact fun v H' e _ d => q.1 x p v H' (xb_none e) (by rw [sz_none] at d; exact d)
  | rl c => exact fun a us H' e _ hn ho d => q.2 c p a us H' (xb_none e) hn ho (dpa_mono (less_sub fun b z => by rcases z with z | z; exact .inl (.inl z); exact .inr z) d)
  | nx G => exact fun ad H' σ S _ => q.1 _ p _ H' (xb_none fun a o h n => S.base a o h n) .non
  | bk G => exact p.elim
  | ct G => exact p.elim
  | ex e G => exact fun d ad H' σ S _ hn hx => x e p d H' (xb_none fun a o h n => S.base a o h n) hn (less_some hx).2
  ) only [↓qt_eq])
/-- a def that never raises -/
theorem okW {x qual : Str} {st : Stmt} {f : Addr} {fd : FuncData} {N ps : List Str} {k : Nat} {P : Pr} (cs : Cs) (F : Fun K x qual st f fd) (S : FnScope N ps (defScope st)) (hl : ∀ ds A, P ds A → ds.length = ps.length)
    (hb : ∀ ds A, P ds A → ∀ (cdv : Value) (Ar : Around) (outer : List Env) (sh : Shared) (H : Hp) (E : XK), Room k (Ar.deeper (envOfC qual (defScope st) sh.heap.objs.size f cdv)) →
      ∃ t, PSs (cxOf CX0 Pg w K mg base N qual (defScope st) f cdv Ar outer sh H E).nox (defBody st) t ∧ SW K cs W0 t (frame N.length ds) (rts0 A)) : FnOk Pg w K mg base CX0 (k + 1) f fd ps (spW0 K P) := qt_of (by simp (disch := with_unfolding_all
  refine F.ok S (fun vs H Q E h => ?_) (fun cdv Ar outer sh H vs Q E hr h => ?_)
  · obtain ⟨Wd, ds, A, _, hd, hp, _⟩ := h
    rw [dpa_len hd]
    exact hl ds A hp
  · obtain ⟨Wd, ds, A, hW, hd, hp, q⟩ := h
    obtain ⟨t, ht, g⟩ := hb ds A hp cdv Ar outer sh H E hr
    exact ⟨t, ht, run0 hW hd g q⟩
  ) only [↓qt_eq])
theorem okWD {x qual : Str} {st : Stmt} {dvs : List V} {kws : List (Str × V)} {f : Addr} {fd : FuncData} {N ps : List Str} {k : Nat} {P : Pr} (cs : Cs) (F : FunD K x qual (defArgs st) (defBody st) (defScope st) dvs kws f fd) (S : FnScope N ps (defScope st)) (hl : ∀ ds A, P ds A → ds.length = ps.length)
    (hb : ∀ ds A, P ds A → ∀ (cdv : Value) (Ar : Around) (outer : List Env) (sh : Shared) (H : Hp) (E : XK), Room k (Ar.deeper (envOfC qual (defScope st) sh.heap.objs.size f cdv)) →
      ∃ t, PSs (cxOf CX0 Pg w K mg base N qual (defScope st) f cdv Ar outer sh H E).nox (defBody st) t ∧ SW K cs W0 t (frame N.length ds) (rts0 A)) : FnOk Pg w K mg base CX0 (k + 1) f fd ps (spW0 K P) := qt_of (by simp (disch := with_unfolding_all
  refine F.ok S (fun vs H Q E h => ?_) (fun cdv Ar outer sh H vs Q E hr h => ?_)
  · obtain ⟨Wd, ds, A, _, hd, hp, _⟩ := h
    rw [dpa_len hd]
    exact hl ds A hp
  · obtain ⟨Wd, ds, A, hW, hd, hp, q⟩ := h
    obtain ⟨t, ht, g⟩ := hb ds A hp cdv Ar outer sh H E hr
    exact ⟨t, ht.nox, run0 hW hd g q⟩
  ) only [↓qt_eq])
/-- a def that may raise -/
theorem okWX {x qual : Str} {st : Stmt} {f : Addr} {fd : FuncData} {N ps : List Str} {k : Nat} {P : Pr} (F : Fun K x qual st f fd) (S : FnScope N ps (defScope st)) (hl : ∀ ds A, P ds A → ds.length = ps.length)
    (hb : ∀ ds A, P ds A → ∀ (cdv : Value) (Ar : Around) (outer : List Env) (sh : Shared) (H : Hp) (E : XK), Room k (Ar.deeper (envOfC qual (defScope st) sh.heap.objs.size f cdv)) →
      ∃ t, PSs (cxOf (L2.CX Pg w) Pg w K mg base N qual (defScope st) f cdv Ar outer sh H E) (defBody st) t ∧ SW K cs (WD E) t (frame N.length ds) (rts A)) :
    FnOk Pg w K mg base (L2.CX Pg w) (k + 1) f fd ps (spW K cs P) := qt_of (by simp (disch := with_unfolding_all
  refine F.okX S (fun vs H Q E h => ?_) (fun cdv Ar outer sh H vs Q E hr h => ?_)
  · obtain ⟨Wd, ds, A, _, hd, hp, _⟩ := h
    rw [dpa_len hd]
    exact hl ds A hp
  · obtain ⟨Wd, ds, A, hW, hd, hp, q, x⟩ := h
    obtain ⟨t, ht, g⟩ := hb ds A hp cdv Ar outer sh H E hr
    exact ⟨t, ht, runX hW hd g q x⟩
  ) only [↓qt_eq])
theorem staB {N : List Str} {Wd : Addr → Prop} {H : Hp} {b c : Addr} {vs : List V} {ds : List PyData} (hW : ∀ a, Wd a → ∃ o, H a = some o) (hB : BagOk H (some (b, c))) (hd : DpAll K (less H fun a => Wd a ∨ InB (some (b, c)) a) vs ds) :
    Sta K Wd (some (b, c)) (fun _ => 0) H H (L2.start N (.ref b :: vs)) (.bag :: frame (N.length - 1) ds) := qt_of (by simp (disch := with_unfolding_all
  have no : ∀ (i : Nat) (l : Own), (En.bag :: frame (N.length - 1) ds)[i]? ≠ some (En.ow l) := fun i l h => by
    cases i with
    | zero => cases h
    | succ i => rcases frame_get h with ⟨d, _, e⟩ | ⟨_, e⟩ <;> cases e
  have zz : ∀ a, Zs Wd (some (b, c)) (fun _ => 0) (En.bag :: frame (N.length - 1) ds) a → Wd a ∨ InB (some (b, c)) a := by
    rintro a (z | ⟨i, l, g, _⟩ | z)
    · exact .inl z
    · exact absurd g (no i l)
    · exact .inr z
  have ln : (L2.start N (.ref b :: vs)).length = (En.bag :: frame (N.length - 1) ds).length := by
    rw [start_len, List.length_cons, List.length_cons, dpa_len hd, frame_len]
    omega
  refine ⟨ln, fun i e h => ?_, fun i j c c' g => absurd g (no i c), fun i c g => absurd g (no i c), fun a o h _ => h, hB, hW⟩
  cases i with
  | zero =>
    cases h
    exact ⟨some (.ref b), rfl, b, c, rfl, rfl⟩
  | succ i =>
    rcases frame_get h with ⟨d, hi, rfl⟩ | ⟨hi, rfl⟩
    · obtain ⟨v, hv, dv⟩ := dpa_get hd hi
      exact ⟨some v, start_get (show (V.ref b :: vs)[i + 1]? = some v from hv), v, rfl, dp_mono (less_sub zz) dv⟩
    · have il : i + 1 < (L2.start N (.ref b :: vs)).length := by
        rw [ln]; exact (List.getElem?_eq_some_iff.mp h).1
      exact ⟨_, List.getElem?_eq_getElem il, trivial⟩
  ) only [↓qt_eq])
/-- a def that draws -/
theorem okWB {x qual : Str} {st : Stmt} {f : Addr} {fd : FuncData} {N ps : List Str} {k : Nat} {P : Pr} (cs : Cs) (F : Fun K x qual st f fd) (S : FnScope N ps (defScope st)) (hl : ∀ ds A, P ds A → ds.length + 1 = ps.length)
    (hb : ∀ ds A, P ds A → ∀ (cdv : Value) (Ar : Around) (outer : List Env) (sh : Shared) (H : Hp) (E : XK), Room k (Ar.deeper (envOfC qual (defScope st) sh.heap.objs.size f cdv)) →
      ∃ t, PSs (cxOf CX0 Pg w K mg base N qual (defScope st) f cdv Ar outer sh H E).nox (defBody st) t ∧ SW K cs W0 t (.bag :: frame (N.length - 1) ds) (rts0 A)) : FnOk Pg w K mg base CX0 (k + 1) f fd ps (spWB K P) := qt_of (by simp (disch := with_unfolding_all
  refine F.ok S (fun vs H Q E h => ?_) (fun cdv Ar outer sh H vs Q E hr h => ?_)
  · obtain ⟨Wd, b, c, us, ds, A, _, rfl, _, hd, hp, _⟩ := h
    rw [List.length_cons, dpa_len hd]
    exact hl ds A hp
  · obtain ⟨Wd, b, c, us, ds, A, hW, rfl, hB, hd, hp, q1, q2⟩ := h
    obtain ⟨t, ht, g⟩ := hb ds A hp cdv Ar outer sh H E hr
    refine ⟨t, ht, g Wd (some (b, c)) (fun _ => 0) H H _ _ (staB hW hB hd) fun o p => ?_⟩
    cases o with
    | rt x => exact fun v H' e hb d => q1 x p v H' e hb d
    | rl l => exact fun a us H' e hb hn ho d => q2 l p a us H' e hb hn ho d
    | nx G => exact fun ad H' σ S _ => q1 _ p _ H' (fun a o h n => S.base a o h n) S.bag .non
    | bk G => exact p.elim
    | ct G => exact p.elim
    | ex e G => exact p.elim
  ) only [↓qt_eq])
theorem bag0_okN {ns : List Int} (h : ns.length ≤ 63) : (bag0 ns).ok := ⟨h, by show (0 : Int) ≤ 20011; decide, by show (20011 : Int) < 2147483647; decide⟩
/-- the law itself -/
theorem okLawW {x qual : Str} {st : Stmt} {f : Addr} {fd : FuncData} {N : List Str} {a : Str} {k j : Nat} (cs : Cs) (F : Fun K x qual st f fd) (S : FnScope N [a] (defScope st)) (hj : j = 1) (hN : 2 ≤ N.length)
    (hb : ∀ (ns : List Int), ns.length ≤ 63 → ∀ (cdv : Value) (A : Around) (outer : List Env) (sh : Shared) (H : Hp) (E : XK), Room k (A.deeper (envOfC qual (defScope st) sh.heap.objs.size f cdv)) →
      ∃ t, PSs (cxOf CX0 Pg w K mg base N qual (defScope st) f cdv A outer sh H E).nox (defBody st) (tSeq (tAsg (tCall (spBag K) [] E0 (tCons (tVar 0) tNil)) (gName j)) t) ∧ SW K cs W0 t (.d (.list (ns.map PyData.int)) :: .bag :: List.replicate (N.length - 2) .un) (fun o => o = .rt (.bool true))) : FnOk Pg w K mg base CX0 (k + 1) f fd [a] (spP K PLaw) := qt_of (by simp (disch := with_unfolding_all
  subst hj
  refine F.ok S (fun vs H Q E h => ?_) (fun cdv A outer sh H vs Q E hr h => ?_)
  · obtain ⟨W, ds, r, _, hd, ⟨ns, rfl, _⟩, _⟩ := h
    exact dpa_len hd
  · obtain ⟨W, ds, r, hW, hd, ⟨ns, rfl, hl, rfl⟩, q⟩ := h
    obtain ⟨t, ht, g⟩ := hb ns hl cdv A outer sh H E hr
    obtain ⟨v, rfl, dv⟩ := dp1 hd
    obtain ⟨N0, N1, N', rfl⟩ : ∃ a b r, N = a :: b :: r := by
      match N, hN with
      | a :: b :: r, _ => exact ⟨a, b, r, rfl⟩
    refine ⟨_, ht, ?_⟩
    refine ⟨v, rfl, W, ns, hW, hd, hl, fun b c H' e fb fc hB => ?_⟩
    have nb : ∀ a o, H a = some o → ¬ InB (some (b, c)) a := by
      rintro a o h ⟨b', c', e, z⟩
      cases e
      rcases z with rfl | rfl
      · rw [fb] at h; cases h
      · rw [fc] at h; cases h
    have no : ∀ (i : Nat) (l : Own), (En.d (.list (ns.map PyData.int)) :: En.bag :: List.replicate N'.length En.un)[i]? ≠ some (En.ow l) := fun i l h => by
      match i, h with
      | 0, h => cases h
      | 1, h => cases h
      | i + 2, h => cases (List.mem_replicate.mp (List.mem_of_getElem? h)).2
    have hW' : ∀ a, W a → ∃ o, H' a = some o := fun a z => (hW a z).elim fun o q => ⟨o, e a o q⟩
    have S0 : Sta K W (some (b, c)) (fun _ => 0) H H' ((L2.start (N0 :: N1 :: N') [v]).set 1 (some (.ref b))) (En.d (.list (ns.map PyData.int)) :: En.bag :: List.replicate N'.length En.un) := by
      refine ⟨?_, fun i en h => ?_, fun i j c c' g => absurd g (no i c), fun i c g => absurd g (no i c), fun a o h _ => e a o h, ⟨_, bag0_okN hl, hB⟩, hW'⟩
      · rw [List.length_set, start_len]
        simp
        omega
      · match i, h with
        | 0, h =>
          cases h
          refine ⟨some v, rfl, v, rfl, dp_mono ?_ dv⟩
          intro a o q
          obtain ⟨q1, q2⟩ := less_some q
          refine less_of ?_ (e a o q2)
          rintro (z | ⟨i, l, g, _⟩ | z)
          · exact q1 z
          · exact no i l g
          · exact nb a o q2 z
        | 1, h =>
          cases h
          exact ⟨some (.ref b), rfl, b, c, rfl, rfl⟩
        | i + 2, h =>
          have en := (List.mem_replicate.mp (List.mem_of_getElem? h)).2
          subst en
          have il : i + 2 < ((L2.start (N0 :: N1 :: N') [v]).set 1 (some (.ref b))).length := by
            have := (List.getElem?_eq_some_iff.mp h).1
            rw [List.length_set, start_len]
            simp at this ⊢
            omega
          exact ⟨_, List.getElem?_eq_getElem il, trivial⟩
    refine g W (some (b, c)) (fun _ => 0) H H' _ _ S0 fun o p => ?_
    subst p
    exact fun v' H2 e2 _ d => by
      cases d
      exact q _ H2 (fun a o h => e2 a o h (nb a o h)) (.bl true)
  ) only [↓qt_eq])
end
end U.N

end
section
namespace U.N
open PySem PyProof.Rows L2 Evl
section
variable {K : Fg} {cs : Cs} {W : WX} {G G' G1 G2 : Gam} {ta tb tc td te tf tg : TE} {φ : PyData → Prop} {ε : Xw → Prop} {ι : List PyData → Prop} {χ : Own → Prop} {γ : Gam → Prop} {Φ Ψ : Out → Prop}
variable {Wd : Addr → Prop} {B : Option (Addr × Addr)} {ad : Nat → Addr} {H0 H H1 H2 : Hp} {σ σ' : St}
/-! ### what a value is -/
section
variable {P : Int → Prop} {Pb : Bool → Prop} {Ps : Str → Prop} {Pl : List PyData → Prop} {i j : Int} {b : Bool} {x y z : PyData} {xs ys : List PyData}
theorem xi_int (p : P i) : ∃ j, PyData.int i = .int j ∧ P j := ⟨_, rfl, p⟩
theorem xi_bool (p : Pb b) : ∃ j, PyData.bool b = .bool j ∧ Pb j := ⟨_, rfl, p⟩
theorem xi_tup (p : Pl xs) : ∃ j, PyData.tuple xs = .tuple j ∧ Pl j := ⟨_, rfl, p⟩
theorem xi_list (p : Pl xs) : ∃ j, PyData.list xs = .list j ∧ Pl j := ⟨_, rfl, p⟩
theorem xi_it (h : itemsOf x = some xs) (p : Pl xs) : ∃ j, itemsOf x = some j ∧ Pl j := ⟨_, h, p⟩
theorem x1_bool (p : Pb b) : ∃ j, [PyData.bool b] = [.bool j] ∧ Pb j := ⟨_, rfl, p⟩
theorem x1_it (h : itemsOf x = some xs) (p : Pl xs) : ∃ (y : PyData) (ys : List PyData), [x] = [y] ∧ itemsOf y = some ys ∧ Pl ys := ⟨_, _, rfl, h, p⟩
theorem x1_rng {P : Int → Prop} (hb : -1000000 ≤ i ∧ i ≤ 1000000) (p : P i) : ∃ n : Int, [PyData.int i] = [.int n] ∧ (-1000000 ≤ n ∧ n ≤ 1000000) ∧ P n := ⟨_, rfl, hb, p⟩
theorem allB_map {α : Type} {f : α → Bool} {l : List α} : AllB [PyData.list (l.map fun a => .bool (f a))] (l.all f) := ⟨l.map f, by rw [List.map_map]; rfl, by rw [List.all_map]; rfl⟩
theorem anyB_map {α : Type} {f : α → Bool} {l : List α} : AnyB [PyData.list (l.map fun a => .bool (f a))] (l.any f) := ⟨l.map f, by rw [List.map_map]; rfl, by rw [List.any_map]; rfl⟩
theorem x_all (h : AllB xs b) (p : Pb b) : ∃ b, AllB xs b ∧ Pb b := ⟨b, h, p⟩
theorem x_any (h : AnyB xs b) (p : Pb b) : ∃ b, AnyB xs b ∧ Pb b := ⟨b, h, p⟩
theorem sc_int (p : Pb (decide (i = j))) : ∃ b, scEq (.int i) (.int j) = some b ∧ Pb b := ⟨_, rfl, p⟩
theorem x_ol (p : Pl xs) : ∃ ys, ol xs = ol ys ∧ Pl ys := ⟨_, rfl, p⟩
theorem unk1 {G : Gam} {i : Nat} (h : G[i]? = some .un) : Unk [i] G := fun j e hj g => by
  rw [List.mem_singleton.mp hj, h] at g
  exact (Option.some.inj g).symm
theorem unk2 {G : Gam} {i j : Nat} (h : G[i]? = some .un) (h2 : G[j]? = some .un) : Unk [i, j] G := fun k e hk g => by
  rcases List.mem_cons.mp hk with rfl | hk
  · rw [h] at g; exact (Option.some.inj g).symm
  · rw [List.mem_singleton.mp hk, h2] at g; exact (Option.some.inj g).symm
theorem unk3 {G : Gam} {i j k : Nat} (h : G[i]? = some .un) (h2 : G[j]? = some .un) (h3 : G[k]? = some .un) : Unk [i, j, k] G := fun l e hl g => by
  rcases List.mem_cons.mp hl with rfl | hl
  · rw [h] at g; exact (Option.some.inj g).symm
  · exact unk2 h2 h3 l e hl g
end
/-! ### displays of a known length -/
theorem ew_tup0 (p : φ (.tuple [])) : EW K cs W (tTup tNil) G φ ε := ew_tup (aw_nil ⟨by show 0 ≤ 16000000; decide, p⟩)
theorem ew_tup1 (h : EW K cs W ta G (fun a => φ (.tuple [a])) ε) : EW K cs W (tTup (tCons ta tNil)) G φ ε := ew_tup (aw_cons (ew_mono h fun a p => aw_nil ⟨by show 1 ≤ 16000000; decide, p⟩))
theorem ew_tup2 (h : EW K cs W ta G (fun a => EW K cs W tb G (fun b => φ (.tuple [a, b])) ε) ε) : EW K cs W (tTup (tCons ta (tCons tb tNil))) G φ ε := ew_tup (aw_cons (ew_mono h fun a h => aw_cons (ew_mono h fun b p => aw_nil ⟨by show 2 ≤ 16000000; decide, p⟩)))
theorem ef_lst0 (p : χ (ol [])) : EF K cs W (tLst tNil) G χ ε := ef_lst (aw_nil ⟨by show 0 ≤ 16000000; decide, p⟩)
theorem ef_lst1 (h : EW K cs W ta G (fun a => χ (ol [a])) ε) : EF K cs W (tLst (tCons ta tNil)) G χ ε := ef_lst (aw_cons (ew_mono h fun a p => aw_nil ⟨by show 1 ≤ 16000000; decide, p⟩))
theorem ef_lst2 (h : EW K cs W ta G (fun a => EW K cs W tb G (fun b => χ (ol [a, b])) ε) ε) : EF K cs W (tLst (tCons ta (tCons tb tNil))) G χ ε := ef_lst (aw_cons (ew_mono h fun a h => aw_cons (ew_mono h fun b p => aw_nil ⟨by show 2 ≤ 16000000; decide, p⟩)))
theorem ef_lst3 (h : EW K cs W ta G (fun a => EW K cs W tb G (fun b => EW K cs W tc G (fun c => χ (ol [a, b, c])) ε) ε) ε) : EF K cs W (tLst (tCons ta (tCons tb (tCons tc tNil)))) G χ ε := ef_lst (aw_cons (ew_mono h fun a h => aw_cons (ew_mono h fun b h => aw_cons (ew_mono h fun c p => aw_nil ⟨by show 3 ≤ 16000000; decide, p⟩))))
theorem ew_lst0 (p : φ (.list [])) : EW K cs W (tLst tNil) G φ ε := ew_ef (ef_lst0 ⟨_, rfl, p⟩)
theorem ew_lst1 (h : EW K cs W ta G (fun a => φ (.list [a])) ε) : EW K cs W (tLst (tCons ta tNil)) G φ ε := ew_ef (ef_lst1 (ew_mono h fun a p => ⟨_, rfl, p⟩))
theorem ew_lst2 (h : EW K cs W ta G (fun a => EW K cs W tb G (fun b => φ (.list [a, b])) ε) ε) : EW K cs W (tLst (tCons ta (tCons tb tNil))) G φ ε := ew_ef (ef_lst2 (ew_mono h fun a h => ew_mono h fun b p => ⟨_, rfl, p⟩))
theorem ew_lst3 (h : EW K cs W ta G (fun a => EW K cs W tb G (fun b => EW K cs W tc G (fun c => φ (.list [a, b, c])) ε) ε) ε) : EW K cs W (tLst (tCons ta (tCons tb (tCons tc tNil)))) G φ ε := ew_ef (ef_lst3 (ew_mono h fun a h => ew_mono h fun b h => ew_mono h fun c p => ⟨_, rfl, p⟩))
/-! ### calls without defaults -/
section
variable {ta : TA} {P : Pr} {E : XK}
theorem ew_cP {P : List PyData → PyData → Prop} (h : AW K cs W ta G (fun ds => ∃ r, P ds r ∧ φ r) ε) : EW K cs W (tCall (spP K P) [] E ta) G φ ε := ew_callP (des := []) (fun _ => .nil) (aw_mono h fun ds p => by rw [List.append_nil]; exact p)
theorem ew_c0 (h : AW K cs W ta G (fun ds => P ds (rE φ noX)) ε) : EW K cs W (tCall (spW0 K P) [] E ta) G φ ε := ew_call0 (des := []) (fun _ => .nil) (aw_mono h fun ds p => by rw [List.append_nil]; exact p)
theorem ew_cW (h : AW K cs W ta G (fun ds => P ds (rE φ ε)) ε) : EW K cs W (tCallSD (spW K cs P) [] (WE W) ta) G φ ε := ew_callW (des := []) (fun _ => .nil) (aw_mono h fun ds p => by rw [List.append_nil]; exact p)
end
theorem rE_ok {x : PyData} (h : φ x) : rE φ ε (.ok x) := h
theorem rE_fl {xs : List PyData} (h : φ (.list xs)) : rE φ ε (.fl (ol xs)) := ⟨xs, rfl, h⟩
/-! ### zip -/
theorem dp_sqv {M : Hp} {v : V} {x : PyData} {xs : List PyData} (hx : itemsOf x = some xs) (d : Dp K M v x) : ∃ k a vs, v = .ref a ∧ SqV K k M a vs ∧ DpAll K M vs xs := by
  rcases items_cases hx with rfl | rfl
  · cases d with
    | lst g t => exact ⟨.L, _, _, rfl, g, t⟩
  · cases d with
    | tup g t => exact ⟨.T, _, _, rfl, g, t⟩
theorem ex_v {M M' : Hp} {k : Kd} {a : Addr} {vs : List V} (e : Ex M M') (h : SqV K k M a vs) : SqV K k M' a vs := by
  cases k with
  | L => exact ex_l e h
  | T => exact ex_t e h
/-! ### stars -/
noncomputable def GsW (K : Fg) (g : TGs) (G : Gam) (xs : List PyData) (γ : Gam → Prop) : Prop :=
  ∀ Wd B ad H0 H σ us, Sta K Wd B ad H0 H σ G → DpAll K (less H (Zs Wd B ad G)) us xs → ∀ Q : St → Hp → Prop,
  (∀ G' ad' H' σ', γ G' → Sta K Wd B ad' H0 H' σ' G' → Ex (less H (Zs Wd B ad G)) (less H' (Zs Wd B ad' G')) → Q σ' H') → g us σ H Q
theorem gsw_nil (h : γ G) : GsW K gNil G [] γ := fun Wd B ad H0 H σ us S d Q q => by
  cases d
  exact ⟨rfl, q _ _ _ _ h S (Ex.refl _)⟩
theorem gsw_cons {g : TG} {gs : TGs} {x : PyData} {xs : List PyData} (h : GW K g G x (fun G' => GsW K gs G' xs γ)) : GsW K (gCons g gs) G (x :: xs) γ := fun Wd B ad H0 H σ us S d Q q => by
  cases d with
  | cons a b =>
    refine ⟨_, _, rfl, h Wd B ad H0 H σ _ S a _ fun G1 ad1 H1 σ1 p S1 e1 => ?_⟩
    exact p Wd B ad1 H0 H1 σ1 _ S1 (dpa_mono e1 b) _ fun G2 ad2 H2 σ2 p S2 e2 => q G2 ad2 H2 σ2 p S2 (e1.trans e2)
theorem gw_tup {n : Nat} {gs : TGs} {xs : List PyData} (hn : xs.length = n) (h : GsW K gs G xs γ) : GW K (gTup K n gs) G (.tuple xs) γ := fun Wd B ad H0 H σ v S d Q q => by
  cases d with
  | tup g t => exact ⟨_, _, rfl, ex_t less_ex g, (dpa_len t).trans hn, h Wd B ad H0 H σ _ S t Q q⟩
/-- for i in range(n) -/
theorem forN {g : TG} {tb : TS} {k : Nat} (I : Nat → Gam → Prop) (h0 : I 0 G) (hs : ∀ i G1, i < k → I i G1 → GW K g G1 (.int i) (fun Gt => SW K cs W tb Gt (lp (I (i + 1)) Φ))) (he : ∀ G1, I k G1 → Φ (.nx G1)) : ForI K cs W g tb G Φ (rngD 0 k) := by
  refine ⟨I, h0, fun i x G1 hx hI => ?_, fun G1 hI => he G1 (by rw [rngD_len] at hI; exact hI)⟩
  have hl := (List.getElem?_eq_some_iff.mp hx).1
  rw [rngD_len] at hl
  rw [rngD_get hl] at hx
  cases hx
  rw [Int.zero_add]
  exact hs i G1 hl hI
section
variable {tz tu tw : TS} {g : TG} {wi : TI} {t : TT} {ti : TIp} {i j : Nat} {ta : TA}
theorem sw_seqA (h : SW K cs W (tAsg te g) G (sq K cs W tz Φ)) : SW K cs W (tSeq (tAsg te g) tz) G Φ := sw_seq h
theorem sw_seqF (h : SW K cs W (tFor wi g tu) G (sq K cs W tz Φ)) : SW K cs W (tSeq (tFor wi g tu) tz) G Φ := sw_seq h
theorem sw_seqW (h : SW K cs W (tWhile t tu) G (sq K cs W tz Φ)) : SW K cs W (tSeq (tWhile t tu) tz) G Φ := sw_seq h
end
theorem sw_cut {tu tz : TS} (J : Gam → Prop) (h : SW K cs W tu G (fun o => ∃ G1, o = .nx G1 ∧ J G1)) (k : ∀ G1, J G1 → SW K cs W tz G1 Φ) : SW K cs W (tSeq tu tz) G Φ := sw_seq (sw_mono h fun o ⟨G1, e, j⟩ => by rw [e]; exact k G1 j)
theorem x_nx {J : Gam → Prop} (h : J G) : ∃ G1, Out.nx G = .nx G1 ∧ J G1 := ⟨G, rfl, h⟩
/-! ### more of lists of one's own -/
theorem sw_setI {i : Nat} {xs : List PyData} (hi : G[i]? = some (.ow (ol xs))) (h : EW K cs W te G (fun x => EW K cs W tb G (fun y => ∃ j k, y = .int j ∧ ixN xs.length j = some k ∧ Φ (.nx (G.set i (.ow (ol (xs.set k x)))))) (fun e => Φ (.ex e G))) (fun e => Φ (.ex e G))) : SW K cs W (tAsg te (gSub (tVar i) tb rSetL)) G Φ := fun Wd B ad H0 H σ D S q =>
  h Wd B ad H0 H σ S _ (fun x p v H1 S1 e1 d1 => by
    obtain ⟨o, g1, rfl, _⟩ := S1.at_ i _ hi
    refine ⟨_, g1, p Wd B ad H0 H1 σ S1 _ (fun y ⟨j, k, ej, hk, p⟩ w H2 S2 e2 d2 => ?_) ((post_xp q).go e1)⟩
    subst ej
    cases d2
    obtain ⟨_, _, _, us, g5, g6⟩ := S2.at_ i _ hi
    have g5 : H2 (ad i) = some (.lst us) := g5
    have g6 : DpAll K _ us xs := g6
    refine ⟨_, us, j, k, rfl, rfl, g5, by rw [dpa_len g6]; exact hk, ?_⟩
    have ds : DpAll K (less H2 (Zs Wd B ad G)) (us.set k v) (xs.set k x) := by
      have key : ∀ (us : List V) (xs : List PyData) (k : Nat), DpAll K (less H2 (Zs Wd B ad G)) us xs → DpAll K (less H2 (Zs Wd B ad G)) (us.set k v) (xs.set k x) := fun us => by
        induction us with
        | nil => intro xs k h; cases h; exact .nil
        | cons u us ih =>
          intro xs k h
          cases h with
          | cons a b =>
            cases k with
            | zero => exact .cons (dp_mono (Xb.lz e2) d1) b
            | succ k => exact .cons a (ih _ k b)
      exact key us xs k g6
    exact q _ p ad _ σ (S2.chg (c' := ol (xs.set k x)) hi ds) ((Xb.lz (e1.trans e2)).trans (chg_ex hi))) (post_xp q)
theorem sw_popD {i : Nat} {xs : List PyData} (hi : G[i]? = some (.ow (ol xs))) (hx : xs ≠ []) (h : Φ (.nx (G.set i (.ow (ol xs.dropLast))))) : SW K cs W (tDrop (tBM0 K "list" rPop (tVar i))) G Φ := fun Wd B ad H0 H σ D S q => by
  obtain ⟨o, g1, rfl, vs, g3, g4⟩ := S.at_ i _ hi
  have g3 : H (ad i) = some (.lst vs) := g3
  have g4 : DpAll K _ vs xs := g4
  have hl : vs.length = xs.length := dpa_len g4
  have hp : 0 < vs.length := by rw [hl]; exact List.length_pos_iff.mpr hx
  refine ⟨_, g1, Or.inl ⟨rfl, vs, sq_of g3⟩, _, vs, vs[vs.length - 1]'(by omega), rfl, rfl, g3, List.getElem?_eq_getElem _, ?_⟩
  have ds : DpAll K (less H (Zs Wd B ad G)) vs.dropLast xs.dropLast := by
    rw [List.dropLast_eq_take, List.dropLast_eq_take, hl]
    exact dpa_take _ g4
  exact q _ h ad _ σ (S.chg (c' := ol xs.dropLast) hi ds) (chg_ex hi)
theorem sw_ext {i : Nat} {xs : List PyData} (hi : G[i]? = some (.ow (ol xs))) (h : EF K cs W te G (fun c => ∃ ys, c = ol ys ∧ xs.length + ys.length ≤ 16000000 ∧ Φ (.nx (G.set i (.ow (ol (xs ++ ys)))))) (fun e => Φ (.ex e G))) : SW K cs W (tDrop (tBM K "list" rExtend (tVar i) (tCons te tNil))) G Φ := fun Wd B ad H0 H σ D S q => by
  obtain ⟨o, g1, rfl, vs, g3, g4⟩ := S.at_ i _ hi
  have g3 : H (ad i) = some (.lst vs) := g3
  refine ⟨_, g1, Or.inl ⟨rfl, vs, sq_of g3⟩, h Wd B ad H0 H σ S _ (fun c ⟨ys, ec, hl, p⟩ a us H1 S1 e1 hn d => ?_) (post_xp q)⟩
  subst ec
  obtain ⟨_, _, _, ws, g5, g6⟩ := S1.at_ i _ hi
  have g5 : H1 (ad i) = some (.lst ws) := g5
  have g6 : DpAll K _ ws xs := g6
  have na : ad i ≠ a := ne_of_none g5 hn
  obtain ⟨S2, e2, _⟩ := new_ex (o := .lst us) S1 hn
  have d' : DpAll K _ us ys := d
  refine ⟨_, a, ws, us, rfl, rfl, by show upd H1 a _ _ = _; rw [upd_ne na]; exact g5, upd_same, by rw [dpa_len g6, dpa_len d']; exact sz_line hl, ?_⟩
  exact q _ p ad _ σ (S2.chg (c' := ol (xs ++ ys)) hi (dpa_app (dpa_mono (Xb.lz e2) g6) (dpa_mono (Xb.lz e2) d'))) ((Xb.lz (e1.trans e2)).trans (chg_ex hi))
end
end U.N

end
section
namespace U.N
open PySem PyProof.Rows L2 Evl
section
variable {φ : PyData → Prop} {n m : Nat} {p q : Fr}
/-! ### items by literal places -/
section
variable {α : Type} {ψ : α → Prop} {xs : List α} {z : α}
theorem at_nat {i : Nat} (h : xs[i]? = some z) (p : ψ z) : ∃ z, atI xs (i : Int) = some z ∧ ψ z := ⟨z, atI_nat h, p⟩
theorem at0 (h : xs[0]? = some z) (p : ψ z) : ∃ z, atI xs 0 = some z ∧ ψ z := at_nat (i := 0) h p
theorem at1 (h : xs[1]? = some z) (p : ψ z) : ∃ z, atI xs 1 = some z ∧ ψ z := at_nat (i := 1) h p
theorem atm {k : Nat} (hk : k ≤ xs.length) (hk0 : 0 < k) (h : xs[xs.length - k]? = some z) : atI xs (-(k : Int)) = some z := by
  unfold atI
  have e : ixN xs.length (-(k : Int)) = some (xs.length - k) := by
    unfold ixN
    split
    · omega
    · split
      · congr 1
        omega
      · omega
  rw [e]
  exact h
end
/-! ### what calls of the first layer's defs give -/
theorem c_pull {k : Int} (h0 : 0 < k) (h1 : k < 1000000000000) (h : ∀ v : Int, 0 ≤ v → v < k → φ (.int v)) (s : Bag) (ok : s.ok) : ∃ r s', P_pull s [.int k] r s' ∧ s'.ok ∧ φ r :=
  ⟨_, _, ⟨k, rfl, h0, h1, rfl, rfl⟩, pullS_ok _ ok, h _ (pullV_range s h0).1 (pullV_range s h0).2⟩
theorem c_cmp (hp : Gd n p) (hq : Gd m q) (hl : max n m ≤ 1900) (h : φ (.int (cmpF p q))) : ∃ r, P_cmp [fr p, fr q] r ∧ φ r := ⟨_, ⟨p, q, rfl, hp.sz.mono (by omega), hq.sz.mono (by omega), rfl⟩, h⟩
theorem c_frac {a b : Int} (ha : Bd 4000 a) (hb : Bd 4000 b) (h : φ (fr (fracF a b))) : ∃ r, P_frac [.int a, .int b] r ∧ φ r := ⟨_, ⟨a, b, rfl, ha.mono (by decide), hb.mono (by decide), rfl⟩, h⟩
theorem c_fracN {a b : Int} (ha : Bd 7990 a) (hb : Bd 7990 b) (h : φ (fr (fracF a b))) : ∃ r, P_frac [.int a, .int b] r ∧ φ r := ⟨_, ⟨a, b, rfl, ha, hb, rfl⟩, h⟩
theorem c_like {x y : PyData} (e : x = y) (hy : okD 9 y = true) (h : φ (.bool true)) : ∃ r, P_like 10 [x, y] r ∧ φ r := by
  subst e
  exact ⟨_, ⟨x, rfl, hy, rfl⟩, h⟩
theorem c_spot {n : Int} (h0 : 0 ≤ n) (hl : n ≤ 1000) (h : ∀ ps : List Fr, Gds 10 ps → ps.length = n.toNat → φ (frs ps)) (s : Bag) (ok : s.ok) : ∃ r s', P_spot s [.int n] r s' ∧ s'.ok ∧ φ r := by
  refine ⟨_, _, ⟨n.toNat, by rw [Int.toNat_of_nonneg h0], by omega, rfl, rfl⟩, itB_ok partS_ok ok _, ?_⟩
  unfold spotOf
  rw [drawn_fr]
  exact h _ (drawFr_gd partOf_gd _ _) (drawFr_len _ _ _ _)
end
end U.N


end
section
/-! Spots in order: the common number below, the keys, the order by worth. -/
namespace U
open PySem PyProof.Rows L2 Evl
theorem gi_cop {a b : Int} (h : gI a b = 1) (hb : b ≠ 0) : Nat.Coprime a.natAbs b.natAbs := by
  have h1 : gN a b = 1 := by unfold gI at h; omega
  unfold gN at h1
  have : 0 < Nat.gcd a.natAbs b.natAbs := Nat.gcd_pos_of_pos_right _ (by omega)
  unfold Nat.Coprime
  omega
theorem val_eq_iff {p q : Fr} (hp : 0 < p.2) (hq : 0 < q.2) : val p = val q ↔ p.1 * q.2 = q.1 * p.2 := qt_of (by simp (disch := with_unfolding_all
  have h1 := qne (Int.ne_of_gt hp)
  have h2 := qne (Int.ne_of_gt hq)
  unfold val
  constructor
  · intro h
    have : (p.1 : Rat) * q.2 = q.1 * p.2 := by grind
    exact_mod_cast this
  · intro h
    have : (p.1 : Rat) * q.2 = q.1 * p.2 := by exact_mod_cast h
    grind
  ) only [↓qt_eq])
theorem gd_inj {n m : Nat} {p q : Fr} (hp : Gd n p) (hq : Gd m q) (h : val p = val q) : p = q := qt_of (by simp (disch := with_unfolding_all
  have e := (val_eq_iff hp.pos hq.pos).mp h
  have c1 := gi_cop hp.low hp.ne
  have c2 := gi_cop hq.low hq.ne
  have en : p.1.natAbs * q.2.natAbs = q.1.natAbs * p.2.natAbs := by
    have := congrArg Int.natAbs e
    rwa [Int.natAbs_mul, Int.natAbs_mul] at this
  have d1 : p.2.natAbs ∣ q.2.natAbs := by
    have : p.2.natAbs ∣ p.1.natAbs * q.2.natAbs := en ▸ Nat.dvd_mul_left _ _
    exact Nat.Coprime.dvd_of_dvd_mul_left c1.symm this
  have d2 : q.2.natAbs ∣ p.2.natAbs := by
    have : q.2.natAbs ∣ q.1.natAbs * p.2.natAbs := en ▸ Nat.dvd_mul_left _ _
    exact Nat.Coprime.dvd_of_dvd_mul_left c2.symm this
  have e2 := Nat.dvd_antisymm d1 d2
  have p1 := hp.pos
  have p2 := hq.pos
  have e3 : p.2 = q.2 := by omega
  rw [e3] at e
  have e4 : p.1 = q.1 := Int.eq_of_mul_eq_mul_right (by omega) e
  exact Prod.ext e4 e3
  ) only [↓qt_eq])
/-! ### the common number -/
noncomputable def lcI (a b : Int) : Int := (a * b).fdiv (gI a b)
theorem lcI_spec {a b : Int} (ha : 0 < a) (hb : 0 < b) : 0 < lcI a b ∧ a ∣ lcI a b ∧ b ∣ lcI a b := qt_of (by simp (disch := with_unfolding_all
  have e : gI a b = (Nat.gcd a.natAbs b.natAbs : Int) := by
    unfold gI gN
    have : 0 < Nat.gcd a.natAbs b.natAbs := Nat.gcd_pos_of_pos_right _ (by omega)
    omega
  obtain ⟨x, rfl⟩ : ∃ x : Nat, a = x := ⟨a.toNat, by omega⟩
  obtain ⟨y, rfl⟩ : ∃ y : Nat, b = y := ⟨b.toNat, by omega⟩
  have e1 : lcI x y = (Nat.lcm x y : Int) := by
    unfold lcI
    rw [e, Int.fdiv_eq_ediv_of_nonneg _ (Int.natCast_nonneg _)]
    show ((x : Int) * y) / ((Nat.gcd x y : Nat) : Int) = _
    unfold Nat.lcm
    norm_cast
  rw [e1]
  refine ⟨?_, ?_, ?_⟩
  · have := Nat.lcm_pos (m := x) (n := y) (by omega) (by omega)
    omega
  · exact_mod_cast Nat.dvd_lcm_left x y
  · exact_mod_cast Nat.dvd_lcm_right x y
  ) only [↓qt_eq])
theorem lcI_bd {n m : Nat} {a b : Int} (ha : Bd n a) (hb : Bd m b) : Bd (n + m) (lcI a b) := (ha.mul hb).fdiv _
noncomputable def cbS (acc : Int) (s : List Fr) : Int := s.foldl (fun c f => lcI c f.2) acc
noncomputable def cb (acc : Int) (ss : List (List Fr)) : Int := ss.foldl cbS acc
noncomputable abbrev Gds' (a : Nat) (s : List Fr) : Prop := ∀ f ∈ s, Gd a f
theorem cbS_spec {a : Nat} : ∀ {s : List Fr} {n : Nat} {acc : Int}, Gds' a s → 0 < acc → Bd n acc → 0 < cbS acc s ∧ acc ∣ cbS acc s ∧ (∀ f ∈ s, f.2 ∣ cbS acc s) ∧ Bd (n + s.length * a) (cbS acc s)
  | [], n, acc, _, h, b => ⟨h, Int.dvd_refl _, (fun _ h => nomatch h), by simpa [cbS] using b⟩
  | f :: s, n, acc, g, h, b => by
    have gf := g f (List.mem_cons_self ..)
    obtain ⟨l1, l2, l3⟩ := lcI_spec h gf.pos
    obtain ⟨k1, k2, k3, k4⟩ := cbS_spec (s := s) (acc := lcI acc f.2) (fun x hx => g x (List.mem_cons_of_mem _ hx)) l1 (lcI_bd b gf.sz.2)
    refine ⟨k1, Int.dvd_trans l2 k2, fun x hx => ?_, ?_⟩
    · rcases List.mem_cons.mp hx with rfl | hx
      · exact Int.dvd_trans l3 k2
      · exact k3 x hx
    · refine k4.mono ?_
      rw [List.length_cons, Nat.succ_mul]; omega
theorem cb_spec {a r : Nat} : ∀ {ss : List (List Fr)} {n : Nat} {acc : Int}, (∀ s ∈ ss, Gds' a s ∧ s.length ≤ r) → 0 < acc → Bd n acc → 0 < cb acc ss ∧ acc ∣ cb acc ss ∧ (∀ s ∈ ss, ∀ f ∈ s, f.2 ∣ cb acc ss) ∧ Bd (n + ss.length * (r * a)) (cb acc ss)
  | [], n, acc, _, h, b => ⟨h, Int.dvd_refl _, (fun _ h => nomatch h), by simpa [cb] using b⟩
  | s :: ss, n, acc, g, h, b => by
    have gf := g s (List.mem_cons_self ..)
    obtain ⟨l1, l2, l3, l4⟩ := cbS_spec gf.1 h b
    obtain ⟨k1, k2, k3, k4⟩ := cb_spec (ss := ss) (acc := cbS acc s) (fun x hx => g x (List.mem_cons_of_mem _ hx)) l1 l4
    refine ⟨k1, Int.dvd_trans l2 k2, fun x hx f hf => ?_, ?_⟩
    · rcases List.mem_cons.mp hx with rfl | hx
      · exact Int.dvd_trans (l3 f hf) k2
      · exact k3 x hx f hf
    · refine k4.mono ?_
      have := Nat.mul_le_mul_right a gf.2
      rw [List.length_cons, Nat.succ_mul]; omega
/-! ### the keys -/
noncomputable def kyF (c : Int) (f : Fr) : Int := f.1 * c.fdiv f.2
theorem kyF_val {c : Int} {f : Fr} (hp : 0 < f.2) (hd : f.2 ∣ c) : (kyF c f : Rat) = val f * c := qt_of (by simp (disch := with_unfolding_all
  obtain ⟨k, rfl⟩ := hd
  have e : (f.2 * k).fdiv f.2 = k := Int.mul_fdiv_cancel_left k (Int.ne_of_gt hp)
  unfold kyF val
  rw [e, Rat.intCast_mul, Rat.intCast_mul]
  have := qne (Int.ne_of_gt hp)
  grind
  ) only [↓qt_eq])
theorem ky_lt {c : Int} {f g : Fr} (hc : 0 < c) (hf : 0 < f.2) (hg : 0 < g.2) (df : f.2 ∣ c) (dg : g.2 ∣ c) : kyF c f < kyF c g ↔ val f < val g := qt_of (by simp (disch := with_unfolding_all
  have h0 := qpos hc
  have e1 := kyF_val hf df
  have e2 := kyF_val hg dg
  have k : kyF c f < kyF c g ↔ (kyF c f : Rat) < (kyF c g : Rat) := Rat.intCast_lt_intCast.symm
  rw [k, e1, e2]
  exact Rat.mul_lt_mul_right h0
  ) only [↓qt_eq])
theorem ky_eq {c : Int} {f g : Fr} (hc : 0 < c) (hf : 0 < f.2) (hg : 0 < g.2) (df : f.2 ∣ c) (dg : g.2 ∣ c) : kyF c f = kyF c g ↔ val f = val g := qt_of (by simp (disch := with_unfolding_all
  have h0 := qne (Int.ne_of_gt hc)
  have e1 := kyF_val hf df
  have e2 := kyF_val hg dg
  constructor
  · intro h
    have : (kyF c f : Rat) = (kyF c g : Rat) := by rw [h]
    rw [e1, e2] at this
    grind
  · intro h
    have : (kyF c f : Rat) = (kyF c g : Rat) := by rw [e1, e2, h]
    exact_mod_cast this
  ) only [↓qt_eq])
end U

end
section
/-! Dicts of one's own, keys tuples; sorted. -/
namespace U.N
open PySem L2 Evl
noncomputable abbrev Kvs := List (List PyData × PyData)
noncomputable abbrev kk (k : List PyData) : NK := toKd (.tuple k)
noncomputable def flK : Kvs → List PyData
  | [] => []
  | (k, v) :: r => .tuple k :: v :: flK r
noncomputable def entOf : Kvs → List V → List Ent
  | (k, _) :: r, .ref b :: v :: vs => (kk k, b, v) :: entOf r vs
  | _, _ => []
/-- a dict of one's own -/
noncomputable def od (w : World) (ep : Nat) (kvs : Kvs) : Own := ⟨flK kvs, fun a vs => DctO w a ep (entOf kvs vs)⟩
noncomputable def lookK (kvs : Kvs) (k : List PyData) : Option PyData := (kvs.find? fun p => decide (kk p.1 = kk k)).map (·.2)
noncomputable def putK (kvs : Kvs) (k : List PyData) (x : PyData) : Kvs := if (lookK kvs k).isSome then kvs.map (fun p => if kk p.1 = kk k then (p.1, x) else p) else kvs ++ [(k, x)]
section
variable {K : Fg} {M : Hp}
inductive KvR (K : Fg) (M : Hp) : Kvs → List V → List Ent → Prop
  | nil : KvR K M [] [] []
  | cons {k : List PyData} {x : PyData} {b : Addr} {v : V} {kvs : Kvs} {vs : List V} {es : List Ent} : Dp K M (.ref b) (.tuple k) → Dp K M v x → KvR K M kvs vs es → KvR K M ((k, x) :: kvs) (.ref b :: v :: vs) ((kk k, b, v) :: es)
theorem kvr_of : ∀ {kvs : Kvs} {vs : List V}, DpAll K M vs (flK kvs) → KvR K M kvs vs (entOf kvs vs)
  | [], _, h => by cases h; exact .nil
  | (k, x) :: kvs, _, h => by
    cases h with
    | cons a t =>
      cases t with
      | cons b t =>
        have ha := a
        cases a with
        | tup g u => exact .cons ha b (kvr_of t)
theorem KvR.dpa {kvs : Kvs} {vs : List V} {es : List Ent} (h : KvR K M kvs vs es) : DpAll K M vs (flK kvs) ∧ entOf kvs vs = es := by
  induction h with
  | nil => exact ⟨.nil, rfl⟩
  | cons a b t ih => exact ⟨.cons a (.cons b ih.1), by rw [entOf, ih.2]⟩
theorem KvR.keys {kvs : Kvs} {vs : List V} {es : List Ent} (h : KvR K M kvs vs es) : (∀ e ∈ es, KeyW K M e.1 e.2.1) ∧ DpAll K M (es.map fun e => .ref e.2.1) (kvs.map fun p => .tuple p.1) ∧ es.length = kvs.length := qt_of (by simp (disch := with_unfolding_all
  induction h with
  | nil => exact ⟨(fun _ h => nomatch h), .nil, rfl⟩
  | cons a b t ih =>
    refine ⟨fun e he => ?_, .cons a ih.2.1, congrArg (· + 1) ih.2.2⟩
    rcases List.mem_cons.mp he with rfl | he
    · exact ⟨_, a, rfl⟩
    · exact ih.1 e he
  ) only [↓qt_eq])
theorem KvR.at_ {kvs : Kvs} {vs : List V} {es : List Ent} (h : KvR K M kvs vs es) : ∀ (i : Nat) (p : List PyData × PyData), kvs[i]? = some p → ∃ b v, es[i]? = some (kk p.1, b, v) ∧ Dp K M (.ref b) (.tuple p.1) ∧ Dp K M v p.2 := qt_of (by simp (disch := with_unfolding_all
  induction h with
  | nil => intro i p h; simp at h
  | cons a b t ih =>
    intro i p hp
    cases i with
    | zero => simp only [List.getElem?_cons_zero, Option.some.injEq] at hp; subst hp; exact ⟨_, _, rfl, a, b⟩
    | succ i =>
      obtain ⟨b', v', h1, h2⟩ := ih i p (by simpa using hp)
      exact ⟨b', v', by simpa using h1, h2⟩
  ) only [↓qt_eq])
theorem KvR.find {kvs : Kvs} {vs : List V} {es : List Ent} (h : KvR K M kvs vs es) (k : List PyData) : (lookK kvs k = none ∧ findE es (kk k) = none) ∨ ∃ x v, lookK kvs k = some x ∧ findE es (kk k) = some v ∧ Dp K M v x := qt_of (by simp (disch := with_unfolding_all
  induction h with
  | nil => exact .inl ⟨rfl, rfl⟩
  | @cons k' x b v kvs vs es a d t ih =>
    by_cases e : kk k' = kk k
    · refine .inr ⟨x, v, ?_, ?_, d⟩
      · unfold lookK; rw [List.find?_cons_of_pos (by simpa using e)]; rfl
      · unfold findE; rw [List.find?_cons_of_pos (by simpa using e)]; rfl
    · have e1 : lookK ((k', x) :: kvs) k = lookK kvs k := by unfold lookK; rw [List.find?_cons_of_neg (by simpa using e)]
      have e2 : findE ((kk k', b, v) :: es) (kk k) = findE es (kk k) := by unfold findE; rw [List.find?_cons_of_neg (by simpa using e)]
      rw [e1, e2]; exact ih
  ) only [↓qt_eq])
theorem KvR.mput {kvs : Kvs} {vs : List V} {es : List Ent} (h : KvR K M kvs vs es) {k : List PyData} {v : V} {x : PyData} (dv : Dp K M v x) : ∃ vs', KvR K M (kvs.map (fun p => if kk p.1 = kk k then (p.1, x) else p)) vs' (es.map (fun e => if e.1 = kk k then (e.1, e.2.1, v) else e)) := qt_of (by simp (disch := with_unfolding_all
  induction h with
  | nil => exact ⟨[], .nil⟩
  | @cons k' x' b v' kvs vs es a d t ih =>
    obtain ⟨vs', ih⟩ := ih
    rw [List.map_cons, List.map_cons]
    by_cases e : kk k' = kk k
    · rw [if_pos e, if_pos e]; exact ⟨_, .cons a dv ih⟩
    · rw [if_neg e, if_neg e]; exact ⟨_, .cons a d ih⟩
  ) only [↓qt_eq])
theorem KvR.snoc {kvs : Kvs} {vs : List V} {es : List Ent} (h : KvR K M kvs vs es) {k : List PyData} {b : Addr} {v : V} {x : PyData} (db : Dp K M (.ref b) (.tuple k)) (dv : Dp K M v x) : ∃ vs', KvR K M (kvs ++ [(k, x)]) vs' (es ++ [(kk k, b, v)]) := by
  induction h with
  | nil => exact ⟨_, .cons db dv .nil⟩
  | cons a d t ih => obtain ⟨vs', ih⟩ := ih; exact ⟨_, .cons a d ih⟩
theorem KvR.put {kvs : Kvs} {vs : List V} {es : List Ent} (h : KvR K M kvs vs es) {k : List PyData} {b : Addr} {v : V} {x : PyData} (db : Dp K M (.ref b) (.tuple k)) (dv : Dp K M v x) : ∃ vs', KvR K M (putK kvs k x) vs' (putE es (kk k) b v) := by
  unfold putK putE
  rcases h.find k with ⟨e1, e2⟩ | ⟨x', v', e1, e2, _⟩
  · rw [e1, e2]; exact h.snoc db dv
  · rw [e1, e2]; exact h.mput dv
/-- k may be a key -/
noncomputable def KG (k : List PyData) : Prop := KGood (kk k)
theorem kg_is {H : Hp} {b : Addr} {k : List PyData} (d : Dp K H (.ref b) (.tuple k)) (g : KG k) : KeyIs K H (kk k) b := ⟨_, d, toKd_good g, g.1⟩
theorem dct_hh {w : World} {H : Hp} {Z : Addr → Prop} {a : Addr} {ep : Nat} {kvs : Kvs} {vs : List V} (g : H a = some ((od w ep kvs).obj a vs)) (d : DpAll K (less H Z) vs (od w ep kvs).flat) : DctH K w H a ep (entOf kvs vs) := by
  refine ⟨g, fun e he => ?_⟩
  obtain ⟨x, h1, h2⟩ := (kvr_of d).keys.1 e he
  exact ⟨x, dp_mono less_ex h1, h2⟩
end
section
variable {K : Fg} {cs : Cs} {W : WX} {G G' G1 G2 : Gam} {ta tb tc te : TE} {t u : TT} {φ : PyData → Prop} {ε : Xw → Prop} {ψ : Bool → Prop} {α : List PyData → Prop} {ι : List PyData → Prop} {χ : Own → Prop} {Φ : Out → Prop} {tu : TS}
variable {Wd : Addr → Prop} {B : Option (Addr × Addr)} {ad : Nat → Addr} {H0 H H1 H2 : Hp} {σ : L2.St} {w : World} {ep : Nat} {kvs : Kvs} {i : Nat}
theorem ef_dct0 (p : χ (od w 0 [])) : EF K cs W (tDct0 w) G χ ε := fun Wd B ad H0 H σ S Q q _ a hn => q _ p a [] H S Xb.refl hn .nil
/-- a dict of one's own, or one that stays -/
noncomputable def IsOd (G : Gam) (i : Nat) (w : World) (ep : Nat) (kvs : Kvs) : Prop := G[i]? = some (.ow (od w ep kvs)) ∨ G[i]? = some (.fz (od w ep kvs))
theorem isod_at (S : Sta K Wd B ad H0 H σ G) (hi : IsOd G i w ep kvs) : ∃ a vs, σ[i]? = some (some (.ref a)) ∧ H a = some ((od w ep kvs).obj a vs) ∧ DpAll K (less H (Zs Wd B ad G)) vs (od w ep kvs).flat := qt_of (by simp (disch := with_unfolding_all
  rcases hi with hi | hi
  · obtain ⟨o, g1, rfl, vs, g3, g4⟩ := S.at_ i _ hi
    exact ⟨_, vs, g1, g3, g4⟩
  · obtain ⟨o, g1, a, vs, rfl, g3, g4⟩ := S.at_ i _ hi
    exact ⟨a, vs, g1, (less_some g3).2, g4⟩
  ) only [↓qt_eq])
theorem isod_same {σ' : L2.St} {H2 : Hp} {a : Addr} {vs : List V} (S : Sta K Wd B ad H0 H σ G) (S2 : Sta K Wd B ad H0 H2 σ G) (hi : IsOd G i w ep kvs) (g : σ[i]? = some (some (.ref a))) : ∃ vs, H2 a = some ((od w ep kvs).obj a vs) ∧ DpAll K (less H2 (Zs Wd B ad G)) vs (od w ep kvs).flat := by
  obtain ⟨a', vs, g1, g2, g3⟩ := isod_at S2 hi
  rw [g1] at g
  cases g
  exact ⟨vs, g2, g3⟩
theorem ew_dx (hi : IsOd G i w ep kvs) (h : EW K cs W tb G (fun y => ∃ k x, y = .tuple k ∧ KG k ∧ lookK kvs k = some x ∧ φ x) ε) : EW K cs W (tOp (rDx K w) (tVar i) tb) G φ ε := fun Wd B ad H0 H σ S Q q x => by
  obtain ⟨a, vs, g1, g2, g3⟩ := isod_at S hi
  refine ⟨_, g1, h Wd B ad H0 H σ S _ (fun y ⟨k, z, e, kg, hz, p⟩ v H2 S2 x2 d2 => ?_) x⟩
  subst e
  obtain ⟨vs, g4, g5⟩ := isod_same (σ' := σ) (vs := vs) S S2 hi g1
  have d2' := d2
  cases d2 with
  | @tup b us _ gb ub =>
    rcases (kvr_of g5).find k with ⟨e1, _⟩ | ⟨x', v', e1, e2, e3⟩
    · rw [hz] at e1; cases e1
    · rw [hz] at e1
      cases e1
      exact ⟨a, b, ep, _, kk k, v', rfl, rfl, dct_hh g4 g5, kg_is (dp_mono less_ex d2') kg, e2, q _ p _ H2 S2 x2 e3⟩
/-- d.get(k, x) -/
theorem ew_dget (hi : IsOd G i w ep kvs) (h : EW K cs W ta G (fun y => EW K cs W tb G (fun z => ∃ k, y = .tuple k ∧ KG k ∧ φ ((lookK kvs k).getD z)) ε) ε) : EW K cs W (tDM w (rDget K w) (tVar i) (tCons ta (tCons tb tNil))) G φ ε := fun Wd B ad H0 H σ S Q q x => by
  obtain ⟨a, vs, g1, g2, g3⟩ := isod_at S hi
  refine ⟨_, g1, ⟨a, ep, _, rfl, g2⟩, h Wd B ad H0 H σ S _ (fun y p v H2 S2 x2 d2 => p Wd B ad H0 H2 σ S2 _ (fun z ⟨k, e, kg, p'⟩ u H3 S3 x3 d3 => ?_) (x.go x2)) x⟩
  subst e
  obtain ⟨vs, g4, g5⟩ := isod_same (σ' := σ) (vs := vs) S S3 hi g1
  have d2' := dp_mono (Xb.lz x3) d2
  cases d2' with
  | @tup b us _ gb ub =>
    refine ⟨a, b, ep, _, kk k, u, rfl, rfl, dct_hh g4 g5, kg_is (dp_mono less_ex (.tup gb ub)) kg, ?_⟩
    rcases (kvr_of g5).find k with ⟨e1, e2⟩ | ⟨x', v', e1, e2, e3⟩
    · rw [e1] at p'
      rw [e2]
      exact q _ p' _ H3 S3 (x2.trans x3) d3
    · rw [e1] at p'
      rw [e2]
      exact q _ p' _ H3 S3 (x2.trans x3) e3
/-- d[k] = v -/
theorem sw_dset (hi : G[i]? = some (.ow (od w ep kvs))) (hl : kvs.length < 16000000) (h : EW K cs W te G (fun x => EW K cs W tb G (fun y => ∃ k, y = .tuple k ∧ KG k ∧ ∀ ep', Φ (.nx (G.set i (.ow (od w ep' (putK kvs k x)))))) (fun e => Φ (.ex e G))) (fun e => Φ (.ex e G))) : SW K cs W (tAsg te (gSub (tVar i) tb (rDset K w))) G Φ := fun Wd B ad H0 H σ D S q =>
  h Wd B ad H0 H σ S _ (fun x p v H1 S1 e1 d1 => by
    obtain ⟨o, g1, rfl, _⟩ := S1.at_ i _ hi
    refine ⟨_, g1, p Wd B ad H0 H1 σ S1 _ (fun y ⟨k, ek, kg, p⟩ u H2 S2 e2 d2 => ?_) ((post_xp q).go e1)⟩
    subst ek
    obtain ⟨_, _, _, us, g5, g6⟩ := S2.at_ i _ hi
    have d2' := d2
    cases d2 with
    | @tup b _ _ gb ub =>
      have kr := kvr_of g6
      obtain ⟨vs', kr'⟩ := kr.put d2' (dp_mono (Xb.lz e2) d1)
      obtain ⟨da, ee⟩ := kr'.dpa
      refine ⟨ad i, b, ep, _, kk k, rfl, rfl, dct_hh g5 g6, kg_is (dp_mono less_ex d2') kg, ?_, fun ep' => ?_⟩
      · rw [kr.keys.2.2]; exact Nat.lt_of_lt_of_le hl (by decide)
      · have S3 := S2.chg (c' := od w ep' (putK kvs k x)) hi da
        have k3 := q _ (p ep') ad _ σ S3 ((Xb.lz (e1.trans e2)).trans (chg_ex hi))
        have eo : (od w ep' (putK kvs k x)).obj (ad i) vs' = DctO w (ad i) ep' (putE (entOf kvs us) (kk k) b v) := by
          show DctO w (ad i) ep' (entOf (putK kvs k x) vs') = _
          rw [ee]
        rw [eo] at k3
        exact k3) (post_xp q)
theorem sw_freezeO {c : Own} (hi : G[i]? = some (.ow c)) (h : SW K cs W tu (G.set i (.fz c)) Φ) : SW K cs W tu G Φ := fun Wd B ad H0 H σ D S q =>
  h Wd B ad H0 H σ D (S.freezeO hi) fun o p => (q o p).mono (less_sub fun a z => Zs.set_of (fun _ z => by cases z) z)
/-- for k in d, a dict that stays -/
theorem iw_dct (hi : G[i]? = some (.fz (od w ep kvs))) (p : ι (kvs.map fun q => .tuple q.1)) : IW K cs W (iDct w (tVar i)) G ι ε := fun Wd B ad H0 H σ S R q x => by
  obtain ⟨o, g1, a, vs, rfl, g3, g4⟩ := S.at_ i _ hi
  have kr := kvr_of g4
  refine ⟨_, g1, a, ep, _, rfl, (less_some g3).2, q _ p _ H S Xb.refl fun H' Z hz e j => ?_⟩
  have g5 : H' a = some (DctO w a ep (entOf kvs vs)) := (less_some (e _ _ g3)).2
  have hl := kr.keys.2.2
  refine ⟨fun d hd => ⟨g5, ?_⟩, fun hn => ⟨g5, by rw [hl]; rw [List.length_map] at hn; exact hn⟩, fun y H'' hy => ?_⟩
  · have := (List.getElem?_eq_some_iff.mp hd).1
    rw [List.length_map] at this
    rw [hl]; exact this
  · obtain ⟨rfl, k, b, v, h1, rfl⟩ := hy
    refine ⟨Ex.refl _, fun d hd => ?_⟩
    rw [List.getElem?_map] at hd
    obtain ⟨p', hp', rfl⟩ := Option.map_eq_some_iff.mp hd
    obtain ⟨b', v', h2, h3, _⟩ := kr.at_ j p' hp'
    rw [h1] at h2
    cases h2
    exact dp_mono e h3
/-! ### sorted -/
theorem srt_dpa {M : Hp} {ps : List (V × PyData)} (h : ∀ p ∈ ps, Dp K M p.1 p.2) : DpAll K M ((srtP ps).map (·.1)) (srtD (ps.map (·.2))) := by
  rw [← srt_map]
  exact zip_dpa fun p hp => h p (List.mem_mergeSort.mp hp)
theorem ef_srt (h : EW K cs W te G (fun x => ∃ xs, x = .list xs ∧ SrtOk xs ∧ χ (ol (srtD xs))) ε) : EF K cs W (tCB (rSrtL K) (tCons te tNil)) G χ ε := fun Wd B ad H0 H σ S Q q x =>
  h Wd B ad H0 H σ S _ (fun y ⟨xs, e, ok, p⟩ v H1 S1 e1 d1 => by
    subst e
    cases d1 with
    | @lst a us _ g t =>
      obtain ⟨ps, k1, k2, k3⟩ := dpa_zip t
      subst k1; subst k2
      exact ⟨a, ps, rfl, ex_l less_ex g, fun p hp => dp_mono less_ex (k3 p hp), ok, fun l hn => q _ p l _ H1 S1 e1 hn (srt_dpa k3)⟩) x
theorem ew_srt (h : EW K cs W te G (fun x => ∃ xs, x = .list xs ∧ SrtOk xs ∧ φ (.list (srtD xs))) ε) : EW K cs W (tCB (rSrtL K) (tCons te tNil)) G φ ε := ew_ef (ef_srt (ew_mono h fun x ⟨xs, e, ok, p⟩ => ⟨xs, e, ok, _, rfl, p⟩))
theorem ef_srtD (hi : IsOd G i w ep kvs) (ok : SrtOk (kvs.map fun q => .tuple q.1)) (p : χ (ol (srtD (kvs.map fun q => .tuple q.1)))) : EF K cs W (tCB (rSrtD K w) (tCons (tVar i) tNil)) G χ ε := fun Wd B ad H0 H σ S Q q x => by
  obtain ⟨a, vs, g1, g2, g3⟩ := isod_at S hi
  obtain ⟨_, kd, _⟩ := (kvr_of g3).keys
  obtain ⟨ps, k1, k2, k3⟩ := dpa_zip kd
  refine ⟨_, g1, a, ep, _, ps, rfl, g2, k1, fun p hp => dp_mono less_ex (k3 p hp), by rw [k2]; exact ok, fun l hn => ?_⟩
  have d := srt_dpa k3
  rw [k2] at d
  exact q _ p l _ H S Xb.refl hn d
theorem ew_srtD (hi : IsOd G i w ep kvs) (ok : SrtOk (kvs.map fun q => .tuple q.1)) (p : φ (.list (srtD (kvs.map fun q => .tuple q.1)))) : EW K cs W (tCB (rSrtD K w) (tCons (tVar i) tNil)) G φ ε := ew_ef (ef_srtD hi ok ⟨_, rfl, p⟩)
end
/-! ### a dict by a comprehension -/
noncomputable def putO (m : Kvs) : Option (List PyData × PyData) → Kvs
  | none => m
  | some (k, z) => putK m k z
noncomputable def putAll (os : List (Option (List PyData × PyData))) : Kvs := os.foldl putO []
theorem putK_len {m : Kvs} {k : List PyData} {z : PyData} : (putK m k z).length ≤ m.length + 1 := by
  unfold putK
  split
  · rw [List.length_map]; omega
  · rw [List.length_append]; exact Nat.le_refl _
theorem putAll_some {os : List (Option (List PyData × PyData))} {k : List PyData} {z : PyData} : putAll (os ++ [some (k, z)]) = putK (putAll os) k z := by unfold putAll; rw [List.foldl_append]; rfl
theorem putAll_none {os : List (Option (List PyData × PyData))} : putAll (os ++ [none]) = putAll os := by unfold putAll; rw [List.foldl_append]; rfl
theorem putAll_len (os : List (Option (List PyData × PyData))) : (putAll os).length ≤ os.length := qt_of (by simp (disch := with_unfolding_all
  have key : ∀ (os : List (Option (List PyData × PyData))) (m : Kvs), (os.foldl putO m).length ≤ m.length + os.length := fun os => by
    induction os with
    | nil => intro m; exact Nat.le_refl _
    | cons o os ih =>
      intro m
      rw [List.foldl_cons, List.length_cons]
      have := ih (putO m o)
      have h2 : (putO m o).length ≤ m.length + 1 := by
        cases o with
        | none => exact Nat.le_succ _
        | some p => exact putK_len
      omega
  have := key os []
  unfold putAll
  simpa using this
  ) only [↓qt_eq])
section
variable {K : Fg} {cs : Cs} {W : WX} {G : Gam} {tk tv : TE} {ε : Xw → Prop} {χ : Own → Prop} {wi : TI} {g : TG} {tt : TT} {vs : List Nat} {w : World}
noncomputable def DcI (K : Fg) (cs : Cs) (W : WX) (w : World) (g : TG) (tt : TT) (tk tv : TE) (vs : List Nat) (G : Gam) (χ : Own → Prop) (ds : List PyData) : Prop :=
  ds.length ≤ 16000000 ∧ Unk vs G ∧ ∃ R : Nat → Option (List PyData × PyData) → Prop, (∀ i x, ds[i]? = some x → GC K g vs G x (fun Gt => TW K cs W tt Gt (fun b => Cnd b (EW K cs W tk Gt (fun y => EW K cs W tv Gt (fun z => ∃ k, y = .tuple k ∧ KG k ∧ R i (some (k, z))) noX) noX) (R i none)) noX)) ∧ ∀ os ep, Each R ds.length os → χ (od w ep (putAll os))
theorem ef_dc (h : IW K cs W wi G (DcI K cs W w g tt tk tv vs G χ) ε) : EF K cs W (tDcd K w wi g tt tk tv vs) G χ ε := fun Wd B ad H0 H σ S Q q x =>
  h Wd B ad H0 H σ S _ (fun ds ⟨hz, hu, R, hs, hd⟩ J H1 S1 e1 ok Dl hD => by
    have hgu : ∀ i c, i ∈ vs → G[i]? ≠ some (.ow c) := fun i c hi g => by cases hu i _ hi g
    obtain ⟨L0, el0⟩ := S1.lend (o := DctO w Dl 0 []) hD
    have fr := S1.fresh hD
    refine ⟨fun i m H' => m = ds.length - i ∧ i ≤ ds.length ∧ Sta K (fun a => Wd a ∨ a = Dl) B ad H0 H' σ G ∧ Ex (less H1 (Zs Wd B ad G)) (less H' (Zs (fun a => Wd a ∨ a = Dl) B ad G)) ∧ Xb B H1 H' ∧
      ∃ os ep acc, Each R i os ∧ H' Dl = some ((od w ep (putAll os)).obj Dl acc) ∧ DpAll K (less H' (Zs (fun a => Wd a ∨ a = Dl) B ad G)) acc (flK (putAll os)), ⟨ds.length, rfl, Nat.zero_le _, L0, by rw [el0]; exact Ex.refl _, .of (Ex.new hD), [], 0, [], each_nil, upd_same, .nil⟩, ?_⟩
    rintro i m H' ⟨rfl, hi, S', e', xb, os, ep, acc, ha2, ha, hda⟩
    obtain ⟨k1, k2, k3⟩ := ok H' (Zs (fun a => Wd a ∨ a = Dl) B ad G) S'.there e' i
    by_cases hlt : i < ds.length
    · have hx : ds[i]? = some ds[i] := List.getElem?_eq_getElem hlt
      refine .inr ⟨k1 _ hx, fun H3 => Sta K (fun a => Wd a ∨ a = Dl) B ad H0 H3 σ G ∧ Ex (less H1 (Zs Wd B ad G)) (less H3 (Zs (fun a => Wd a ∨ a = Dl) B ad G)) ∧ Xb B H1 H3 ∧
        ∃ os ep acc, Each R (i + 1) os ∧ H3 Dl = some ((od w ep (putAll os)).obj Dl acc) ∧ DpAll K (less H3 (Zs (fun a => Wd a ∨ a = Dl) B ad G)) acc (flK (putAll os)), fun H3 h3 => ⟨ds.length - (i + 1), by omega, rfl, hlt, h3⟩, fun v H'' hyl => ?_⟩
      obtain ⟨ex, dx⟩ := k3 v H'' hyl
      have S2 := (S'.ext ex).slots (σ' := wipe σ vs) (G' := G) (vs := vs) rfl (fun _ _ => rfl) hu hgu wipe_wipe.symm
      refine hs i _ hx _ B ad H0 H'' _ v S2 (dx _ hx) _ fun Gt σ2 hte hl ho hw S3 e3 ew => ⟨by rw [ew, wipe_wipe], ?_⟩
      have own : ∀ (i : Nat) (c : Own), Gt[i]? = some (En.ow c) ↔ G[i]? = some (En.ow c) := fun i c => by
        by_cases hi : i ∈ vs
        · exact ⟨fun g => hw i c hi g, fun g => absurd g (hgu i c hi)⟩
        · rw [ho i hi]
      have eZ : Zs (fun a => Wd a ∨ a = Dl) B ad Gt = Zs (fun a => Wd a ∨ a = Dl) B ad G := zs_same own
      have back : ∀ {H5 : Hp}, Sta K (fun a => Wd a ∨ a = Dl) B ad H0 H5 σ2 Gt → Sta K (fun a => Wd a ∨ a = Dl) B ad H0 H5 σ G := fun {H5} S5 =>
        S5.slots (G' := G) (vs := vs) hl.symm (fun i hi => (ho i hi).symm) hu (fun i c hi g => hgu i c hi (hw i c hi g)) (by rw [ew, wipe_wipe])
      have hB : ¬ InB B Dl := fr.2.1
      have ha3 : H'' Dl = some ((od w ep (putAll os)).obj Dl acc) := ex _ _ ha
      have al : (entOf (putAll os) acc).length < sizeLine := by
        have h1 := (kvr_of hda).keys.2.2
        have h2 := putAll_len os
        have h3 := ha2.1
        exact Nat.lt_of_lt_of_le (show (entOf (putAll os) acc).length < 16777216 by omega) (by decide)
      refine hte _ B ad H0 H'' σ2 S3 _ (fun b p H3 S4 e4 => ?_) xp_no
      have e4' : Ex (less H'' (Zs (fun a => Wd a ∨ a = Dl) B ad G)) (less H3 (Zs (fun a => Wd a ∨ a = Dl) B ad G)) := by
        have := Xb.lz (W := fun a => Wd a ∨ a = Dl) (ad := ad) (G := G) e4
        exact this
      have e5 : Ex (less H' (Zs (fun a => Wd a ∨ a = Dl) B ad G)) (less H3 (Zs (fun a => Wd a ∨ a = Dl) B ad G)) := (less_mono ex).trans e4'
      cases b with
      | false =>
        refine iteF ⟨back S4, e'.trans e5, (xb.trans (.of ex)).trans e4, os ++ [none], ep, acc, ?_, ?_, ?_⟩
        · exact ha2.snoc (p.2 rfl)
        · rw [putAll_none]; exact e4 _ _ ha3 hB
        · rw [putAll_none]; exact dpa_mono e5 hda
      | true =>
        refine iteT ?_
        refine p.1 rfl _ B ad H0 H3 σ2 S4 _ (fun y py u H4 S5 e6 du => ?_) xp_no
        refine py _ B ad H0 H4 σ2 S5 _ (fun z ⟨k, ek, kg, pz⟩ u2 H5 S5' e7 du2 => ?_) xp_no
        subst ek
        rw [eZ] at du du2
        have S6 := back S5'
        have e6' := Xb.lz (W := fun a => Wd a ∨ a = Dl) (ad := ad) (G := G) e6
        have e7' := Xb.lz (W := fun a => Wd a ∨ a = Dl) (ad := ad) (G := G) e7
        have hd5 := dpa_mono (e5.trans (e6'.trans e7')) hda
        have g5 : H5 Dl = some ((od w ep (putAll os)).obj Dl acc) := e7 _ _ (e6 _ _ (e4 _ _ ha3 hB) hB) hB
        have dk := dp_mono e7' du
        have dk' := dk
        cases dk with
        | @tup b _ _ gb ub =>
          obtain ⟨acc', kr'⟩ := (kvr_of hd5).put dk' du2
          obtain ⟨da, ee⟩ := kr'.dpa
          refine ⟨b, ep, _, kk k, rfl, dct_hh g5 hd5, kg_is (dp_mono less_ex dk') kg, al, fun ep' => ?_⟩
          obtain ⟨S7, el7⟩ := S6.foreign (o := DctO w Dl ep' (putE (entOf (putAll os) acc) (kk k) b u2)) (p := Dl) (.inr rfl) fr.1 hB
          refine ⟨S7, ?_, ?_, os ++ [some (k, z)], ep', acc', ?_, ?_, ?_⟩
          · rw [el7]
            exact e'.trans (e5.trans (e6'.trans e7'))
          · intro a o g n
            have na : a ≠ Dl := ne_of_none g hD
            rw [upd_ne na]
            exact (((((xb.trans (.of ex)).trans e4).trans e6).trans e7) a o g n)
          · exact ha2.snoc pz
          · rw [upd_same, putAll_some]
            show _ = some (DctO w Dl ep' (entOf _ acc'))
            rw [ee]
          · rw [el7, putAll_some]
            exact da
    · have en : i = ds.length := by omega
      subst en
      obtain ⟨S5, e5⟩ := S'.back
      obtain ⟨S6, x6, n6, l6⟩ := fl_go S1 xb S'.bag hD ha
      refine .inl ⟨k2 (Nat.le_refl _), ?_⟩
      have k := q _ (hd os ep ha2) Dl acc _ S6 (e1.trans x6) n6 (by rw [l6, ← zs_lend]; exact hda)
      have k2 : Q (.ref Dl) (upd (less H' fun b => b = Dl) Dl ((od w ep (putAll os)).obj Dl acc)) := k
      rw [fl_upd ha] at k2
      exact k2) x
/-- each turn known -/
theorem dcM {β : Type} {xs : List β} {f : β → PyData} (hk : β → List PyData) (hv : β → PyData) (hz : xs.length ≤ 16000000) (hu : Unk vs G) (hs : ∀ x, x ∈ xs → GC K g vs G (f x) (fun Gt => EW K cs W tk Gt (fun y => EW K cs W tv Gt (fun z => y = .tuple (hk x) ∧ KG (hk x) ∧ z = hv x) noX) noX)) (p : ∀ ep, χ (od w ep (putAll (xs.map fun x => some (hk x, hv x))))) : DcI K cs W w g tYes tk tv vs G χ (xs.map f) := by
  refine ⟨by rw [List.length_map]; exact hz, hu, fun i o => ∀ x, xs[i]? = some x → o = some (hk x, hv x), fun i y hy => ?_, fun os ep ha => ?_⟩
  · obtain ⟨x, hx, rfl, hm⟩ := map_at hy
    refine gc_mono (hs x hm) fun Gt h => tw_yes (cnd_t (ew_mono h fun y h => ew_mono h fun z ⟨e1, e2, e3⟩ => ⟨_, e1, e2, fun x' hx' => ?_⟩))
    rw [hx] at hx'
    cases hx'
    rw [e3]
  · have e : os = xs.map fun x => some (hk x, hv x) := by
      obtain ⟨h1, h2⟩ := ha
      rw [List.length_map] at h1
      apply List.ext_getElem?
      intro i
      rcases Nat.lt_or_ge i xs.length with hl | hl
      · rw [List.getElem?_map, List.getElem?_eq_getElem hl, List.getElem?_eq_getElem (by omega : i < os.length)]
        exact congrArg some (h2 i _ (List.getElem?_eq_getElem (by omega)) _ (List.getElem?_eq_getElem hl))
      · rw [List.getElem?_eq_none (by omega), List.getElem?_eq_none (by rw [List.length_map]; exact hl)]
    rw [e]; exact p ep
end
end U.N

end
section
/-! The order of spots; dicts by keys of a type. -/
namespace U
open PySem PyProof.Rows L2 Evl
noncomputable abbrev Spot := List Fr
noncomputable def sLt : Spot → Spot → Prop
  | [], [] => False
  | [], _ :: _ => True
  | _ :: _, [] => False
  | f :: s, g :: t => val f < val g ∨ (val f = val g ∧ sLt s t)
theorem sLt_irr : ∀ s : Spot, ¬ sLt s s
  | [] => id
  | f :: s => fun h => h.elim (Rat.lt_irrefl) fun h => sLt_irr s h.2
theorem sLt_asy : ∀ s t : Spot, sLt s t → ¬ sLt t s
  | [], [] => fun h => h.elim
  | [], _ :: _ => fun _ h => h
  | _ :: _, [] => fun h => h.elim
  | f :: s, g :: t => fun h h' => by
    rcases h with h | ⟨e, h⟩
    · rcases h' with h' | ⟨e', h'⟩
      · exact absurd h' (Rat.not_lt.mpr (Rat.le_of_lt h))
      · rw [e'] at h; exact Rat.lt_irrefl h
    · rcases h' with h' | ⟨e', h'⟩
      · rw [e] at h'; exact Rat.lt_irrefl h'
      · exact sLt_asy s t h h'
/-- a spot whose numbers below divide c -/
structure SpC (c : Int) (s : Spot) : Prop where
  gd : ∃ a, ∀ f ∈ s, Gd a f
  dv : ∀ f ∈ s, f.2 ∣ c
theorem SpC.tl {c : Int} {f : Fr} {s : Spot} (h : SpC c (f :: s)) : SpC c s := ⟨h.gd.imp fun a g x hx => g x (List.mem_cons_of_mem _ hx), fun x hx => h.dv x (List.mem_cons_of_mem _ hx)⟩
theorem SpC.hd {c : Int} {f : Fr} {s : Spot} (h : SpC c (f :: s)) : (∃ a, Gd a f) ∧ f.2 ∣ c := ⟨h.gd.imp fun a g => g f (List.mem_cons_self ..), h.dv f (List.mem_cons_self ..)⟩
noncomputable abbrev ky (c : Int) (s : Spot) : List Int := s.map (kyF c)
theorem ky_slt {c : Int} (hc : 0 < c) : ∀ {s t : Spot}, SpC c s → SpC c t → (ky c s < ky c t ↔ sLt s t)
  | [], [], _, _ => by simp [ky, sLt]
  | [], _ :: _, _, _ => by simp [ky, sLt]
  | _ :: _, [], _, _ => by simp [ky, sLt]
  | f :: s, g :: t, h1, h2 => by
    obtain ⟨⟨a, g1⟩, d1⟩ := h1.hd
    obtain ⟨⟨b, g2⟩, d2⟩ := h2.hd
    show (kyF c f :: ky c s) < (kyF c g :: ky c t) ↔ _
    rw [List.cons_lt_cons_iff, ky_lt hc g1.pos g2.pos d1 d2, ky_eq hc g1.pos g2.pos d1 d2, ky_slt hc h1.tl h2.tl]
    rfl
theorem ky_inj {c : Int} (hc : 0 < c) : ∀ {s t : Spot}, SpC c s → SpC c t → ky c s = ky c t → s = t
  | [], [], _, _, _ => rfl
  | [], _ :: _, _, _, h => by cases h
  | _ :: _, [], _, _, h => by cases h
  | f :: s, g :: t, h1, h2, h => by
    obtain ⟨⟨a, g1⟩, d1⟩ := h1.hd
    obtain ⟨⟨b, g2⟩, d2⟩ := h2.hd
    have h : kyF c f :: ky c s = kyF c g :: ky c t := h
    injection h with e1 e2
    rw [gd_inj g1 g2 ((ky_eq hc g1.pos g2.pos d1 d2).mp e1), ky_inj hc h1.tl h2.tl e2]
/-- in order, each once -/
noncomputable def Rising (ss ys : List Spot) : Prop := ys.Pairwise sLt ∧ ∀ s, s ∈ ys ↔ s ∈ ss
theorem pw_uniq {α : Type} {R : α → α → Prop} (irr : ∀ x, ¬ R x x) (asy : ∀ x y, R x y → ¬ R y x) : ∀ {l m : List α}, l.Pairwise R → m.Pairwise R → (∀ x, x ∈ l ↔ x ∈ m) → l = m
  | [], [], _, _, _ => rfl
  | [], y :: m, _, _, h => absurd ((h y).mpr (List.mem_cons_self ..)) (by simp)
  | x :: l, [], _, _, h => absurd ((h x).mp (List.mem_cons_self ..)) (by simp)
  | x :: l, y :: m, h1, h2, h => by
    rw [List.pairwise_cons] at h1 h2
    have e : x = y := by
      rcases List.mem_cons.mp ((h x).mp (List.mem_cons_self ..)) with e | hx
      · exact e
      · rcases List.mem_cons.mp ((h y).mpr (List.mem_cons_self ..)) with e | hy
        · exact e.symm
        · exact absurd (h2.1 x hx) (asy _ _ (h1.1 y hy))
    subst e
    rw [pw_uniq irr asy h1.2 h2.2 fun z => ⟨fun hz => ?_, fun hz => ?_⟩]
    · rcases List.mem_cons.mp ((h z).mp (List.mem_cons_of_mem _ hz)) with rfl | hz'
      · exact absurd (h1.1 z hz) (irr z)
      · exact hz'
    · rcases List.mem_cons.mp ((h z).mpr (List.mem_cons_of_mem _ hz)) with rfl | hz'
      · exact absurd (h2.1 z hz) (irr z)
      · exact hz'
theorem rising_uniq {ss ys zs : List Spot} (h1 : Rising ss ys) (h2 : Rising ss zs) : ys = zs := pw_uniq sLt_irr sLt_asy h1.1 h2.1 fun s => (h1.2 s).trans (h2.2 s).symm
/-! ### dicts by typed keys -/
namespace N
section
variable {κ β : Type} [DecidableEq κ] {ek : κ → List PyData} {ev : β → PyData}
noncomputable def aget (m : List (κ × β)) (k : κ) : Option β := (m.find? fun p => decide (p.1 = k)).map (·.2)
noncomputable def aput (m : List (κ × β)) (k : κ) (v : β) : List (κ × β) := if (aget m k).isSome then m.map (fun p => if p.1 = k then (p.1, v) else p) else m ++ [(k, v)]
noncomputable def encM (ek : κ → List PyData) (ev : β → PyData) (m : List (κ × β)) : Kvs := m.map fun p => (ek p.1, ev p.2)
theorem look_enc (inj : ∀ a b, kk (ek a) = kk (ek b) → a = b) (m : List (κ × β)) (k : κ) : lookK (encM ek ev m) (ek k) = (aget m k).map ev := qt_of (by simp (disch := with_unfolding_all
  unfold lookK aget encM
  induction m with
  | nil => rfl
  | cons p m ih =>
    rw [List.map_cons]
    by_cases e : p.1 = k
    · rw [List.find?_cons_of_pos (by simp [e]), List.find?_cons_of_pos (by simp [e])]; rfl
    · rw [List.find?_cons_of_neg (by simpa using fun z => e (inj _ _ z)), List.find?_cons_of_neg (by simpa using e)]
      exact ih
  ) only [↓qt_eq])
theorem put_enc (inj : ∀ a b, kk (ek a) = kk (ek b) → a = b) (m : List (κ × β)) (k : κ) (v : β) : putK (encM ek ev m) (ek k) (ev v) = encM ek ev (aput m k v) := qt_of (by simp (disch := with_unfolding_all
  unfold putK aput
  rw [look_enc inj, Option.isSome_map]
  split
  · unfold encM
    rw [List.map_map, List.map_map]
    refine List.map_congr_left fun p _ => ?_
    show (if kk (ek p.1) = kk (ek k) then _ else _) = _
    by_cases e : p.1 = k
    · rw [if_pos (by rw [e])]
      show _ = (fun p : κ × β => (ek p.1, ev p.2)) (if p.1 = k then (p.1, v) else p)
      rw [if_pos e]
    · rw [if_neg (fun z => e (inj _ _ z))]
      show _ = (fun p : κ × β => (ek p.1, ev p.2)) (if p.1 = k then (p.1, v) else p)
      rw [if_neg e]
  · unfold encM; rw [List.map_append]; rfl
  ) only [↓qt_eq])
theorem aget_none {m : List (κ × β)} {k : κ} : aget m k = none ↔ ∀ p ∈ m, p.1 ≠ k := by
  unfold aget
  rw [Option.map_eq_none_iff, List.find?_eq_none]
  simp
theorem aget_mem {m : List (κ × β)} {k : κ} {v : β} (h : aget m k = some v) : (k, v) ∈ m := qt_of (by simp (disch := with_unfolding_all
  unfold aget at h
  obtain ⟨p, h1, rfl⟩ := Option.map_eq_some_iff.mp h
  have h2 := List.find?_some h1
  have h3 := List.mem_of_find?_eq_some h1
  have : p.1 = k := by simpa using h2
  rw [← this]; exact h3
  ) only [↓qt_eq])
theorem aget_aput {m : List (κ × β)} {k j : κ} {v : β} : aget (aput m k v) j = if j = k then some v else aget m j := qt_of (by simp (disch := with_unfolding_all
  unfold aput
  split
  · rename_i hs
    induction m with
    | nil => cases hs
    | cons p m ih =>
      have step : ∀ (q : κ × β) (l : List (κ × β)), aget (q :: l) j = if q.1 = j then some q.2 else aget l j := fun q l => by
        unfold aget
        by_cases e : q.1 = j
        · rw [if_pos e, List.find?_cons_of_pos (by simpa using e)]; rfl
        · rw [if_neg e, List.find?_cons_of_neg (by simpa using e)]
      have stepk : ∀ (q : κ × β) (l : List (κ × β)), aget (q :: l) k = if q.1 = k then some q.2 else aget l k := fun q l => by
        unfold aget
        by_cases e : q.1 = k
        · rw [if_pos e, List.find?_cons_of_pos (by simpa using e)]; rfl
        · rw [if_neg e, List.find?_cons_of_neg (by simpa using e)]
      rw [List.map_cons, step, step]
      by_cases e : p.1 = k
      · rw [if_pos e]
        show (if p.1 = j then some v else _) = _
        by_cases ej : j = k
        · rw [if_pos (by rw [e, ej]), if_pos ej]
        · rw [if_neg (by rw [e]; exact fun z => ej z.symm), if_neg ej, if_neg (by rw [e]; exact fun z => ej z.symm)]
          by_cases hm : (aget m k).isSome = true
          · rw [ih hm, if_neg ej]
          · have hn : ∀ q ∈ m, q.1 ≠ k := aget_none.mp (by cases h : aget m k with | none => rfl | some v => rw [h] at hm; exact absurd rfl hm)
            have : (m.map fun p => if p.1 = k then (p.1, v) else p) = m := by
              conv => rhs; rw [← List.map_id m]
              exact List.map_congr_left fun q hq => if_neg (hn q hq)
            rw [this]
      · rw [if_neg e]
        rw [stepk, if_neg e] at hs
        rw [ih hs]
        by_cases ej : j = k
        · rw [if_pos ej, if_pos ej]
          rw [if_neg (by rw [ej]; exact e)]
        · rw [if_neg ej, if_neg ej]
  · rename_i hs
    have hn : ∀ q ∈ m, q.1 ≠ k := aget_none.mp (by cases h : aget m k with | none => rfl | some v => rw [h] at hs; exact absurd rfl hs)
    unfold aget
    rw [List.find?_append]
    by_cases ej : j = k
    · subst ej
      rw [if_pos rfl, List.find?_eq_none.mpr (by simpa using hn)]
      simp
    · rw [if_neg ej]
      have : [(k, v)].find? (fun p => decide (p.1 = j)) = none := by
        rw [List.find?_eq_none]
        intro p hp
        rw [List.mem_singleton.mp hp]
        simpa using fun z => ej z.symm
      rw [this, Option.or_none]
  ) only [↓qt_eq])
theorem aput_keys {m : List (κ × β)} {k : κ} {v : β} (h : (m.map (·.1)).Nodup) : ((aput m k v).map (·.1)).Nodup := qt_of (by simp (disch := with_unfolding_all
  unfold aput
  split
  · rw [List.map_map]
    have : (m.map ((·.1) ∘ fun p : κ × β => if p.1 = k then (p.1, v) else p)) = m.map (·.1) := List.map_congr_left fun p _ => by
      show (if p.1 = k then (p.1, v) else p).1 = p.1
      split <;> rfl
    rw [this]; exact h
  · rename_i hs
    have hn : ∀ q ∈ m, q.1 ≠ k := aget_none.mp (by cases h : aget m k with | none => rfl | some v => rw [h] at hs; exact absurd rfl hs)
    rw [List.map_append, List.nodup_append]
    refine ⟨h, by simp, fun a ha b hb => ?_⟩
    obtain ⟨q, hq, rfl⟩ := List.mem_map.mp ha
    have : b = k := by simpa using hb
    rw [this]; exact hn q hq
  ) only [↓qt_eq])
end
end N
end U

end
section
/-! Keys that are whole numbers; sorted rows of whole numbers; forms for the walking tactic. -/
namespace U.N
open PySem L2 Evl
noncomputable abbrev inz (a : List Int) : List PyData := a.map PyData.int
theorem toKs_ints : ∀ a : List Int, toKs (inz a) = some (a.map NestedKey.num)
  | [] => rfl
  | x :: a => by
    show ((toK (.int x)).bind fun k => (toKs (inz a)).map (k :: ·)) = _
    rw [toKs_ints a]
    rfl
theorem kk_ints (a : List Int) : kk (inz a) = .tup (a.map NestedKey.num) := by
  show ((toKs (inz a)).map NestedKey.tup).getD .none = _
  rw [toKs_ints]
  rfl
theorem num_inj : ∀ {a b : List Int}, a.map NestedKey.num = b.map NestedKey.num → a = b
  | [], [], _ => rfl
  | [], _ :: _, h => by cases h
  | _ :: _, [], h => by cases h
  | x :: a, y :: b, h => by
    injection h with h1 h2
    injection h1 with h1
    rw [h1, num_inj h2]
theorem kk_inj (a b : List Int) (h : kk (inz a) = kk (inz b)) : a = b := by
  rw [kk_ints, kk_ints] at h
  injection h with h
  exact num_inj h
theorem kg_ints (a : List Int) : KG (inz a) := qt_of (by simp (disch := with_unfolding_all
  unfold KG
  rw [kk_ints]
  refine ⟨?_, _, rfl⟩
  have : NestedKey.depthAll (a.map NestedKey.num) ≤ 1 := by
    induction a with
    | nil => simp [NestedKey.depthAll]
    | cons x a ih =>
      rw [List.map_cons, NestedKey.depthAll]
      have : NestedKey.depth (.num x) ≤ 1 := by simp [NestedKey.depth]
      omega
  rw [NestedKey.depth]
  omega
  ) only [↓qt_eq])
/-! ### rows of whole numbers, sorted -/
theorem le_tr {a b c : List Int} (h1 : decide (a ≤ b) = true) (h2 : decide (b ≤ c) = true) : decide (a ≤ c) = true := by
  simp only [decide_eq_true_eq] at *
  exact List.le_trans h1 h2
theorem le_to (a b : List Int) : (decide (a ≤ b) || decide (b ≤ a)) = true := by
  rcases List.le_total a b with h | h <;> simp [h]
noncomputable def srtI (xs : List (List Int)) : List (List Int) := xs.mergeSort fun a b => decide (a ≤ b)
theorem srtI_pw (xs : List (List Int)) : (srtI xs).Pairwise (· ≤ ·) := by
  have := List.pairwise_mergeSort (le := fun a b : List Int => decide (a ≤ b)) (fun a b c => le_tr) (fun a b => le_to a b) xs
  exact this.imp fun h => by simpa using h
theorem srtI_mem {xs : List (List Int)} {a : List Int} : a ∈ srtI xs ↔ a ∈ xs := List.mem_mergeSort
theorem srtI_nodup {xs : List (List Int)} (h : xs.Nodup) : (srtI xs).Nodup := (List.mergeSort_perm xs _).nodup_iff.mpr h
theorem srtI_lt {xs : List (List Int)} (h : xs.Nodup) : (srtI xs).Pairwise (· < ·) := by
  have h1 := srtI_pw xs
  have h2 := srtI_nodup h
  have h3 := h1.and h2
  refine h3.imp fun ⟨a, b⟩ => ?_
  rcases List.le_iff_lt_or_eq.mp a with h | h
  · exact h
  · exact absurd h b
theorem le_not (a b : List Int) : (!decide (b < a)) = decide (a ≤ b) := by
  by_cases h : a ≤ b
  · rw [decide_eq_true h, decide_eq_false (List.not_lt.mpr h)]; rfl
  · rw [decide_eq_false h, decide_eq_true (List.not_le.mp h)]; rfl
theorem srt_tups (xs : List (List Int)) : srtD (xs.map fun a => .tuple (inz a)) = (srtI xs).map fun a => .tuple (inz a) := by
  unfold srtD srtI
  refine (List.map_mergeSort fun a _ b _ => ?_).symm
  show decide (a ≤ b) = !PySem.W.rowLt (inz b) (inz a)
  rw [PySem.W.dataLt_ints, le_not]
theorem srt_lists (xs : List (List Int)) : srtD (xs.map fun a => .list (inz a)) = (srtI xs).map fun a => .list (inz a) := by
  unfold srtD srtI
  refine (List.map_mergeSort fun a _ b _ => ?_).symm
  show decide (a ≤ b) = !PySem.W.rowLt (inz b) (inz a)
  rw [PySem.W.dataLt_ints, le_not]
theorem depth_ints (a : List Int) : PyData.depthAll (inz a) = 0 := PySem.W.depth_ints a
theorem ok_tups {xs : List (List Int)} (h : ∀ a ∈ xs, a ≠ []) : SrtOk (xs.map fun a => .tuple (inz a)) := by
  refine ⟨fun d hd d' hd' => ?_, .inl fun d hd => ?_, fun d hd => ?_⟩
  · obtain ⟨a, _, rfl⟩ := List.mem_map.mp hd
    obtain ⟨b, _, rfl⟩ := List.mem_map.mp hd'
    exact PySem.W.alike_ints a b
  · obtain ⟨a, ha, rfl⟩ := List.mem_map.mp hd
    cases a with
    | nil => exact absurd rfl (h [] ha)
    | cons x a => exact ⟨_, _, rfl⟩
  · obtain ⟨a, _, rfl⟩ := List.mem_map.mp hd
    rw [PyData.depth, depth_ints]
    decide
theorem ok_lists (xs : List (List Int)) : SrtOk (xs.map fun a => .list (inz a)) := by
  refine ⟨fun d hd d' hd' => ?_, .inr fun d hd => ?_, fun d hd => ?_⟩
  · obtain ⟨a, _, rfl⟩ := List.mem_map.mp hd
    obtain ⟨b, _, rfl⟩ := List.mem_map.mp hd'
    exact PySem.W.alike_ints a b
  · obtain ⟨a, ha, rfl⟩ := List.mem_map.mp hd
    exact ⟨(fun z => nomatch z), fun _ z => nomatch z⟩
  · obtain ⟨a, _, rfl⟩ := List.mem_map.mp hd
    rw [PyData.depth, depth_ints]
    decide
/-! ### forms for the tactic -/
section
variable {K : Fg} {cs : Cs} {W : WX} {G : Gam} {ta tb : TE} {φ : PyData → Prop} {ε : Xw → Prop} {w : World} {ep : Nat} {kvs : Kvs} {i : Nat}
theorem ew_dxO (hi : G[i]? = some (.ow (od w ep kvs))) (h : EW K cs W tb G (fun y => ∃ k x, y = .tuple k ∧ KG k ∧ lookK kvs k = some x ∧ φ x) ε) : EW K cs W (tOp (rDx K w) (tVar i) tb) G φ ε := ew_dx (.inl hi) h
theorem ew_dxF (hi : G[i]? = some (.fz (od w ep kvs))) (h : EW K cs W tb G (fun y => ∃ k x, y = .tuple k ∧ KG k ∧ lookK kvs k = some x ∧ φ x) ε) : EW K cs W (tOp (rDx K w) (tVar i) tb) G φ ε := ew_dx (.inr hi) h
theorem ew_dgetO (hi : G[i]? = some (.ow (od w ep kvs))) (h : EW K cs W ta G (fun y => EW K cs W tb G (fun z => ∃ k, y = .tuple k ∧ KG k ∧ φ ((lookK kvs k).getD z)) ε) ε) : EW K cs W (tDM w (rDget K w) (tVar i) (tCons ta (tCons tb tNil))) G φ ε := ew_dget (.inl hi) h
theorem ew_inSO {neg : Bool} {xs : List PyData} (hi : G[i]? = some (.ow (ol xs))) (h : EW K cs W ta G (fun x => SeqAt.shaped x = true ∧ SeqAt.shaped (.list xs) = true ∧ φ (.bool (if neg then !xs.any (fun z => PyData.eqv z x) else xs.any fun z => PyData.eqv z x))) ε) : EW K cs W (tOp (rInS K neg) ta (tVar i)) G φ ε := fun Wd B ad H0 H σ S Q q x =>
  h Wd B ad H0 H σ S _ (fun y ⟨h1, h2, p⟩ v H2 S2 e2 d2 => by
    obtain ⟨o, g1, rfl, vs, g3, g4⟩ := S2.at_ i _ hi
    have g3 : H2 (ad i) = some (.lst vs) := g3
    have g4 : DpAll K _ vs xs := g4
    exact ⟨_, g1, y, .list xs, xs, dp_mono less_ex d2, .lst (sq_of g3) (dpa_mono less_ex g4), .inl rfl, h1, h2, q _ p _ H2 S2 e2 (.bl _)⟩) x
theorem dpa_rev {M : Hp} : ∀ {vs : List V} {xs : List PyData}, DpAll K M vs xs → DpAll K M vs.reverse xs.reverse
  | _, _, .nil => .nil
  | _, _, .cons a b => by
    rw [List.reverse_cons, List.reverse_cons]
    exact dpa_app (dpa_rev b) (.cons a .nil)
theorem ef_revL {χ : Own → Prop} (h : EW K cs W ta G (fun x => ∃ xs, x = .list xs ∧ χ (ol xs.reverse)) ε) : EF K cs W (tRevL K ta) G χ ε := fun Wd B ad H0 H σ S Q q x =>
  h Wd B ad H0 H σ S _ (fun y ⟨xs, e, p⟩ v H1 S1 e1 d1 => by
    subst e
    cases d1 with
    | @lst a us _ g t => exact ⟨a, us, rfl, ex_l less_ex g, fun l hn => q _ p l _ H1 S1 e1 hn (dpa_rev t)⟩) x
theorem ew_revL (h : EW K cs W ta G (fun x => ∃ xs, x = .list xs ∧ φ (.list xs.reverse)) ε) : EW K cs W (tRevL K ta) G φ ε := ew_ef (ef_revL (ew_mono h fun x ⟨xs, e, p⟩ => ⟨xs, e, _, rfl, p⟩))
end
end U.N

end
section
namespace U.N
open PySem PyProof.Rows L2 Evl
section
variable {K : Fg} {cs : Cs} {W : WX} {G G' : Gam} {ta te : TE} {φ : PyData → Prop} {ε : Xw → Prop} {ι : List PyData → Prop} {χ : Own → Prop} {Φ : Out → Prop}
variable {Wd : Addr → Prop} {B : Option (Addr × Addr)} {ad : Nat → Addr} {H0 H H1 H2 : Hp} {σ : L2.St}
/-! ### enumerate -/
/-- the items with their places -/
noncomputable def enL {β : Type} (xs : List β) : List (Nat × β) := xs.mapIdx fun i x => (i, x)
theorem enL_at {β : Type} {xs : List β} {i : Nat} : (enL xs)[i]? = xs[i]?.map fun x => (i, x) := by unfold enL; rw [List.getElem?_mapIdx]
theorem enL_len {β : Type} {xs : List β} : (enL xs).length = xs.length := by unfold enL; exact List.length_mapIdx
theorem enL_mem {β : Type} {xs : List β} {p : Nat × β} (h : p ∈ enL xs) : xs[p.1]? = some p.2 := by
  obtain ⟨i, hi⟩ := List.mem_iff_getElem?.mp h
  rw [enL_at] at hi
  obtain ⟨x, hx, rfl⟩ := Option.map_eq_some_iff.mp hi
  exact hx
/-! ### many clauses -/
/-- a clause's rest lays some more on the list -/
noncomputable def CW (K : Fg) (cs : Cs) (W : WX) (tc : TCl) (G : Gam) (m : Nat) (ρ : List PyData → Prop) : Prop :=
  ∀ Wd B ad H0 H σ D acc xs, Sta K Wd B ad H0 H σ G → Wd D → H0 D = none → ¬ InB B D → H D = some (.lst acc) → DpAll K (less H (Zs Wd B ad G)) acc xs → xs.length + m ≤ 16000000 →
    ∀ Nx : Hp → Prop, (∀ ys, ρ ys → ys.length ≤ m → ∀ H2 acc2, Sta K Wd B ad H0 H2 σ G → Ex (less H (Zs Wd B ad G)) (less H2 (Zs Wd B ad G)) → (∀ a o, H a = some o → ¬ InB B a → a ≠ D → H2 a = some o) → H2 D = some (.lst acc2) → DpAll K (less H2 (Zs Wd B ad G)) acc2 (xs ++ ys) → Nx H2) → tc D σ H Nx
theorem cw_mono {tc : TCl} {m : Nat} {ρ ρ' : List PyData → Prop} (h : CW K cs W tc G m ρ) (k : ∀ ys, ρ ys → ρ' ys) : CW K cs W tc G m ρ' := fun Wd B ad H0 H σ D acc xs S wd d0 nb hD da hl Nx n => h Wd B ad H0 H σ D acc xs S wd d0 nb hD da hl Nx fun ys p => n ys (k ys p)
theorem cw_elt {m : Nat} {ρ : List PyData → Prop} (hm : 1 ≤ m) (h : EW K cs W te G (fun y => ρ [y]) noX) : CW K cs W (tElt te) G m ρ := fun Wd B ad H0 H σ D acc xs S wd d0 nb hD da hl Nx n => by
  refine h Wd B ad H0 H σ S _ (fun y py v H1 S1 e1 dv => ?_) xp_no
  have hD1 : H1 D = some (.lst acc) := e1 _ _ hD nb
  have l1 := dpa_len da
  obtain ⟨S2, el⟩ := S1.foreign (o := .lst (acc ++ [v])) (p := D) wd d0 nb
  have ex := Xb.lz (W := Wd) (ad := ad) (G := G) e1
  refine ⟨acc, hD1, Nat.lt_of_lt_of_le (show acc.length < 16777216 by omega) (by decide), n _ py (by simpa using hm) _ _ S2 (by rw [el]; exact ex) (fun a o g nn na => ?_) upd_same ?_⟩
  · rw [upd_ne na]; exact e1 _ _ g nn
  · rw [el]
    exact dpa_app (dpa_mono ex da) (.cons dv .nil)
noncomputable def ClI (K : Fg) (cs : Cs) (W : WX) (g : TG) (tt : TT) (tc : TCl) (vs : List Nat) (G : Gam) (m : Nat) (ρ : List PyData → Prop) (ds : List PyData) : Prop :=
  Unk vs G ∧ ∃ k, ds.length * k ≤ m ∧ ∃ R : Nat → List PyData → Prop, (∀ i x, ds[i]? = some x → GC K g vs G x (fun Gt => TW K cs W tt Gt (fun b => Cnd b (CW K cs W tc Gt k (R i)) (R i [])) noX)) ∧ ∀ yss, Each R ds.length yss → ρ yss.flatten
theorem flat_snoc {yss : List (List PyData)} {ys : List PyData} : (yss ++ [ys]).flatten = yss.flatten ++ ys := by simp
/-- one clause's turns -/
theorem cl_turn {J : It} {ds : List PyData} {g : TG} {tt : TT} {tc : TCl} {vs : List Nat} {k : Nat} {R : Nat → List PyData → Prop} {D : Addr} {xs : List PyData} {M : Hp} {Nx : Hp → Prop}
    (hu : Unk vs G) (hs : ∀ i x, ds[i]? = some x → GC K g vs G x (fun Gt => TW K cs W tt Gt (fun b => Cnd b (CW K cs W tc Gt k (R i)) (R i [])) noX))
    (wd : Wd D) (d0 : H0 D = none) (nb : ¬ InB B D) (hl : xs.length + ds.length * k ≤ 16000000) (ok : ItOk K J ds M)
    (S1 : Sta K Wd B ad H0 H1 σ G) (eM : Ex M (less H1 (Zs Wd B ad G))) {acc : List V} (hD : H1 D = some (.lst acc)) (hda : DpAll K (less H1 (Zs Wd B ad G)) acc xs)
    (n : ∀ yss, Each R ds.length yss → yss.flatten.length ≤ ds.length * k → ∀ H2 acc2, Sta K Wd B ad H0 H2 σ G → Ex (less H1 (Zs Wd B ad G)) (less H2 (Zs Wd B ad G)) → (∀ a o, H1 a = some o → ¬ InB B a → a ≠ D → H2 a = some o) → H2 D = some (.lst acc2) → DpAll K (less H2 (Zs Wd B ad G)) acc2 (xs ++ yss.flatten) → Nx H2) :
    ∃ W1 : Nat → Nat → Hp → Prop, (∃ m, W1 0 m H1) ∧ ∀ j k H, W1 j k H →
      (J.stop j H ∧ Nx H) ∨ (J.go j H ∧ ∃ Nx1 : Hp → Prop, (∀ H', Nx1 H' → ∃ k', k' < k ∧ W1 (j + 1) k' H') ∧ ∀ x H', J.yld j H x H' → g x (wipe σ vs) H' fun σ3 H5 => wipe σ3 vs = wipe σ vs ∧ tt σ3 H5 fun b H6 => if b = true then tc D σ3 H6 Nx1 else Nx1 H6) := qt_of (by simp (disch := with_unfolding_all
  have hgu : ∀ i c, i ∈ vs → G[i]? ≠ some (.ow c) := fun i c hi g => by cases hu i _ hi g
  refine ⟨fun i m H' => m = ds.length - i ∧ i ≤ ds.length ∧ Sta K Wd B ad H0 H' σ G ∧ Ex (less H1 (Zs Wd B ad G)) (less H' (Zs Wd B ad G)) ∧ (∀ a o, H1 a = some o → ¬ InB B a → a ≠ D → H' a = some o) ∧
      ∃ yss acc, Each R i yss ∧ yss.flatten.length ≤ i * k ∧ H' D = some (.lst acc) ∧ DpAll K (less H' (Zs Wd B ad G)) acc (xs ++ yss.flatten), ⟨ds.length, rfl, Nat.zero_le _, S1, Ex.refl _, fun _ _ h _ _ => h, [], acc, each_nil, by simp, hD, by rw [List.flatten_nil, List.append_nil]; exact hda⟩, ?_⟩
  rintro i m H' ⟨rfl, hi, S', e', xb, yss, acc, ha2, hfl, ha, hda⟩
  obtain ⟨k1, k2, k3⟩ := ok H' (Zs Wd B ad G) S'.there (eM.trans e') i
  by_cases hlt : i < ds.length
  · have hx : ds[i]? = some ds[i] := List.getElem?_eq_getElem hlt
    have hik : i * k + k ≤ ds.length * k := by rw [← Nat.succ_mul]; exact Nat.mul_le_mul_right _ hlt
    refine .inr ⟨k1 _ hx, fun H3 => Sta K Wd B ad H0 H3 σ G ∧ Ex (less H1 (Zs Wd B ad G)) (less H3 (Zs Wd B ad G)) ∧ (∀ a o, H1 a = some o → ¬ InB B a → a ≠ D → H3 a = some o) ∧
      ∃ yss acc, Each R (i + 1) yss ∧ yss.flatten.length ≤ (i + 1) * k ∧ H3 D = some (.lst acc) ∧ DpAll K (less H3 (Zs Wd B ad G)) acc (xs ++ yss.flatten), fun H3 h3 => ⟨ds.length - (i + 1), by omega, rfl, hlt, h3⟩, fun v H'' hyl => ?_⟩
    obtain ⟨ex, dx⟩ := k3 v H'' hyl
    have S2 := (S'.ext ex).slots (σ' := wipe σ vs) (G' := G) (vs := vs) rfl (fun _ _ => rfl) hu hgu wipe_wipe.symm
    refine hs i _ hx _ B ad H0 H'' _ v S2 (dx _ hx) _ fun Gt σ2 hte hl2 ho hw S3 e3 ew => ⟨by rw [ew, wipe_wipe], ?_⟩
    have own : ∀ (i : Nat) (c : Own), Gt[i]? = some (En.ow c) ↔ G[i]? = some (En.ow c) := fun i c => by
      by_cases hi : i ∈ vs
      · exact ⟨fun g => hw i c hi g, fun g => absurd g (hgu i c hi)⟩
      · rw [ho i hi]
    have eZ : Zs Wd B ad Gt = Zs Wd B ad G := zs_same own
    have back : ∀ {H5 : Hp}, Sta K Wd B ad H0 H5 σ2 Gt → Sta K Wd B ad H0 H5 σ G := fun {H5} S5 =>
      S5.slots (G' := G) (vs := vs) hl2.symm (fun i hi => (ho i hi).symm) hu (fun i c hi g => hgu i c hi (hw i c hi g)) (by rw [ew, wipe_wipe])
    have ha3 : H'' D = some (.lst acc) := ex _ _ ha
    refine hte _ B ad H0 H'' σ2 S3 _ (fun b p H3 S4 e4 => ?_) xp_no
    have e4' : Ex (less H'' (Zs Wd B ad G)) (less H3 (Zs Wd B ad G)) := Xb.lz (W := Wd) (ad := ad) (G := G) e4
    have e5 : Ex (less H' (Zs Wd B ad G)) (less H3 (Zs Wd B ad G)) := (less_mono ex).trans e4'
    have ha4 : H3 D = some (.lst acc) := e4 _ _ ha3 nb
    have da4 : DpAll K (less H3 (Zs Wd B ad G)) acc (xs ++ yss.flatten) := dpa_mono e5 hda
    have xb3 : ∀ a o, H1 a = some o → ¬ InB B a → a ≠ D → H3 a = some o := fun a o g nn na => e4 _ _ (ex _ _ (xb a o g nn na)) nn
    cases b with
    | false =>
      refine iteF ⟨back S4, e'.trans e5, xb3, yss ++ [[]], acc, ha2.snoc (p.2 rfl), ?_, ha4, ?_⟩
      · rw [flat_snoc, List.append_nil, Nat.succ_mul]; omega
      · rw [flat_snoc, List.append_nil]; exact da4
    | true =>
      refine iteT ?_
      refine p.1 rfl Wd B ad H0 H3 σ2 D acc (xs ++ yss.flatten) S4 wd d0 nb ha4 (by rw [eZ]; exact da4) (by rw [List.length_append]; omega) _ fun ys py pl H4 acc2 S5 e6 x6 hD6 da6 => ?_
      rw [eZ] at e6 da6
      refine ⟨back S5, e'.trans (e5.trans e6), fun a o g nn na => x6 _ _ (xb3 a o g nn na) nn na, yss ++ [ys], acc2, ha2.snoc py, ?_, hD6, ?_⟩
      · rw [flat_snoc, List.length_append, Nat.succ_mul]; omega
      · rw [flat_snoc, ← List.append_assoc]; exact da6
  · have en : i = ds.length := by omega
    subst en
    exact .inl ⟨k2 (Nat.le_refl _), n yss ha2 hfl H' acc S' e' xb ha hda⟩
  ) only [↓qt_eq])
theorem cw_clause {wi : TI} {g : TG} {tt : TT} {tc : TCl} {vs : List Nat} {m : Nat} {ρ : List PyData → Prop} (h : IW K cs W wi G (ClI K cs W g tt tc vs G m ρ) noX) : CW K cs W (tClause wi g tt tc vs) G m ρ := fun Wd B ad H0 H σ D acc xs S wd d0 nb hD da hl Nx n => by
  refine h Wd B ad H0 H σ S _ (fun ds ⟨hu, k, hk, R, hs, hp⟩ J H1 S1 e1 ok => ?_) xp_no
  have ex := Xb.lz (W := Wd) (ad := ad) (G := G) e1
  refine cl_turn hu hs wd d0 nb (by omega) ok S1 (Ex.refl _) (e1 _ _ hD nb) (dpa_mono ex da) fun yss he hf H2 acc2 S2 e2 x2 hD2 da2 => ?_
  exact n _ (hp yss he) (Nat.le_trans hf hk) H2 acc2 S2 (ex.trans e2) (fun a o g nn na => x2 _ _ (e1 _ _ g nn) nn na) hD2 da2
theorem ef_lcN {wi : TI} {g : TG} {tt : TT} {tc : TCl} {vs : List Nat} (h : IW K cs W wi G (ClI K cs W g tt tc vs G 16000000 (fun ys => χ (ol ys))) ε) : EF K cs W (tLcN wi g tt tc vs) G χ ε := fun Wd B ad H0 H σ S Q q x =>
  h Wd B ad H0 H σ S _ (fun ds ⟨hu, k, hk, R, hs, hp⟩ J H1 S1 e1 ok Dl hD => by
    obtain ⟨L0, el0⟩ := S1.lend (o := .lst []) hD
    have fr := S1.fresh hD
    refine cl_turn (Wd := fun a => Wd a ∨ a = Dl) (xs := []) hu hs (.inr rfl) fr.1 fr.2.1 (by simpa using hk) ok L0 (by rw [el0]; exact Ex.refl _) upd_same .nil fun yss he hf H2 acc2 S2 e2 x2 hD2 da2 => ?_
    have xb : Xb B H1 H2 := fun a o g nn => x2 a o (by rw [upd_ne (ne_of_none g hD)]; exact g) nn (ne_of_none g hD)
    obtain ⟨S6, x6, n6, l6⟩ := fl_go S1 xb S2.bag hD hD2
    have kq := q _ (hp yss he) Dl acc2 _ S6 (e1.trans x6) n6 (by rw [l6, ← zs_lend]; exact da2)
    have k2 : Q (.ref Dl) (upd (less H2 fun b => b = Dl) Dl (.lst acc2)) := kq
    rw [fl_upd hD2] at k2
    exact k2) x
theorem ew_lcN {wi : TI} {g : TG} {tt : TT} {tc : TCl} {vs : List Nat} (h : IW K cs W wi G (ClI K cs W g tt tc vs G 16000000 (fun ys => φ (.list ys))) ε) : EW K cs W (tLcN wi g tt tc vs) G φ ε := ew_ef (ef_lcN (fun Wd B ad H0 H σ S R q x => h Wd B ad H0 H σ S R (fun ds ⟨hu, k, hk, R', hs, hp⟩ => q ds ⟨hu, k, hk, R', hs, fun yss he => ⟨_, rfl, hp yss he⟩⟩) x))
/-! the turns' items by a map -/
section
variable {β : Type} {xs : List β} {f : β → PyData} {g : TG} {tt : TT} {tc : TCl} {vs : List Nat} {m : Nat} {ρ : List PyData → Prop}
theorem clR (k : Nat) (R : β → List PyData → Prop) (hz : xs.length * k ≤ m) (hu : Unk vs G) (hs : ∀ x, x ∈ xs → GC K g vs G (f x) (fun Gt => TW K cs W tt Gt (fun b => Cnd b (CW K cs W tc Gt k (R x)) (R x [])) noX)) (p : ∀ yss, All2 R xs yss → ρ yss.flatten) : ClI K cs W g tt tc vs G m ρ (xs.map f) :=
  ⟨hu, k, by rw [List.length_map]; exact hz, fun i ys => ∃ x, xs[i]? = some x ∧ R x ys, fun i x hx => by
    obtain ⟨b, hb, rfl, mb⟩ := map_at hx
    refine gc_mono (hs b mb) fun Gt h => tw_mono h fun bb p => ⟨fun e => cw_mono (p.1 e) fun ys hy => ⟨b, hb, hy⟩, fun e => ⟨b, hb, p.2 e⟩⟩, fun yss he => p yss (by
    rw [List.length_map] at he
    exact he.all2 fun i x o hx ⟨x', hx', hr⟩ => by rw [hx] at hx'; cases hx'; exact hr)⟩
theorem all2_flat {h : β → List PyData} : ∀ {xs : List β} {yss : List (List PyData)}, All2 (fun x ys => ys = h x) xs yss → yss.flatten = xs.flatMap h := fun {xs yss} ha => by
  rw [ha.eq_map, List.flatMap_def]
theorem clM (k : Nat) (h : β → List PyData) (hz : xs.length * k ≤ m) (hu : Unk vs G) (hs : ∀ x, x ∈ xs → GC K g vs G (f x) (fun Gt => CW K cs W tc Gt k (fun ys => ys = h x))) (p : ρ (xs.flatMap h)) : ClI K cs W g tYes tc vs G m ρ (xs.map f) :=
  clR k (fun x ys => ys = h x) hz hu (fun x mx => gc_mono (hs x mx) fun Gt h => tw_yes (cnd_t h)) fun yss ha => by rw [all2_flat ha]; exact p
theorem clE (h : β → PyData) (hz : xs.length ≤ m) (hu : Unk vs G) (hs : ∀ x, x ∈ xs → GC K g vs G (f x) (fun Gt => EW K cs W te Gt (fun y => y = h x) noX)) (p : ρ (xs.map h)) : ClI K cs W g tYes (tElt te) vs G m ρ (xs.map f) :=
  clM 1 (fun x => [h x]) (by omega) hu (fun x mx => gc_mono (hs x mx) fun Gt hh => cw_elt (Nat.le_refl _) (ew_mono hh fun y e => by rw [e])) (by
    have : ∀ l : List β, l.flatMap (fun x => [h x]) = l.map h := fun l => by
      induction l with
      | nil => rfl
      | cons a l ih => rw [List.flatMap_cons, ih]; rfl
    rw [this]; exact p)
end
end
end U.N

end
section
/-! A list of one's own is lent to a test or a call that only reads it. -/
namespace U.N
open PySem PyProof.Rows L2 Evl
section
variable {K : Fg} {cs : Cs} {W : WX} {G : Gam} {te : TE} {t : TT} {φ : PyData → Prop} {ψ : Bool → Prop} {ε : Xw → Prop} {i : Nat} {xs : List PyData}
variable {Wd : Addr → Prop} {B : Option (Addr × Addr)} {ad : Nat → Addr} {H0 H H2 : Hp} {σ : L2.St}
end
end U.N

end
section
namespace U.N
open PySem PyProof.Rows L2 Evl
section
variable {K : Fg} {cs : Cs} {W : WX} {G G' : Gam} {ta tb te : TE} {φ : PyData → Prop} {ε : Xw → Prop} {χ : Own → Prop} {Φ : Out → Prop} {γ : Gam → Prop} {P : Pr}
variable {Wd : Addr → Prop} {B : Option (Addr × Addr)} {ad : Nat → Addr} {H0 H H1 H2 : Hp} {σ : L2.St}
/-! ### first, *rest = xs -/
theorem gw_starE {i j : Nat} {x : PyData} {y : PyData} {ys : List PyData} (hx : itemsOf x = some (y :: ys)) (hl : ys.length ≤ 10000) (h : γ ((G.set i (.d y)).set j (.d (.list ys)))) : GW K (gStarE K (gCons (gName i) (gCons (gName j) gNil))) G x γ := fun Wd B ad H0 H σ v S d Q q => by
  obtain ⟨k, a, us, rfl, g, t⟩ := dp_sqv hx d
  cases t with
  | cons d1 d2 =>
    rename_i w ws
    refine ⟨k, a, w, ws, rfl, ex_v less_ex g, by rw [dpa_len d2]; exact hl, fun l hn => ?_⟩
    obtain ⟨S1, e1, g1⟩ := new_ex (o := .lst ws) S hn
    have ex := Xb.lz (W := Wd) (ad := ad) (G := G) e1
    have S2 := S1.setD (i := i) (dp_mono ex d1)
    have e2 : Ex (less (upd H l (.lst ws)) (Zs Wd B ad G)) (less (upd H l (.lst ws)) (Zs Wd B ad (G.set i (.d y)))) := less_sub fun a z => Zs.set_of (fun _ z => by cases z) z
    have dl : Dp K (less (upd H l (.lst ws)) (Zs Wd B ad G)) (.ref l) (.list ys) := .lst (sq_of g1) (dpa_mono ex d2)
    have S3 := S2.setD (i := j) (dp_mono e2 dl)
    refine ⟨_, _, rfl, _, _, rfl, rfl, ?_⟩
    exact q _ _ _ _ h S3 (ex.trans (e2.trans (less_sub fun a z => Zs.set_of (fun _ z => by cases z) z)))
/-! ### calls with keywords that may raise -/
/-! ### xs.index(y) -/
theorem ew_indexO {i : Nat} {xs : List PyData} (hi : G[i]? = some (.ow (ol xs))) (h : EW K cs W te G (fun y => SeqAt.shaped (.list xs) = true ∧ SeqAt.shaped y = true ∧ ∃ (j : Nat) (z : PyData), xs[j]? = some z ∧ PyData.eqv z y = true ∧ (∀ (m : Nat) (z' : PyData), m < j → xs[m]? = some z' → PyData.eqv z' y = false) ∧ φ (.int (j : Nat))) ε) : EW K cs W (tBM K "list" (rIndexD K) (tVar i) (tCons te tNil)) G φ ε := fun Wd B ad H0 H σ S Q q x => by
  obtain ⟨o, g1, rfl, vs, g3, g4⟩ := S.at_ i _ hi
  have g3 : H (ad i) = some (.lst vs) := g3
  refine ⟨_, g1, Or.inl ⟨rfl, vs, sq_of g3⟩, h Wd B ad H0 H σ S _ (fun y ⟨s1, s2, j, z, hz, he, hno, p⟩ v H1 S1 e1 d1 => ?_) x⟩
  obtain ⟨_, _, _, us, g5, g6⟩ := S1.at_ i _ hi
  have g5 : H1 (ad i) = some (.lst us) := g5
  have g6 : DpAll K _ us xs := g6
  exact ⟨ad i, v, y, xs, j, z, rfl, rfl, .lst (sq_of g5) (dpa_mono less_ex g6), dp_mono less_ex d1, s1, s2, hz, he, hno, q _ p _ H1 S1 e1 (.int _)⟩
end
/-! ### keys that are bodies -/
theorem toKs_map {α : Type} {enc : α → PyData} {ke : α → NK} (h : ∀ a, toK (enc a) = some (ke a)) : ∀ xs : List α, toKs (xs.map enc) = some (xs.map ke)
  | [] => rfl
  | x :: xs => by
    show ((toK (enc x)).bind fun k => (toKs (xs.map enc)).map (k :: ·)) = _
    rw [h, toKs_map h xs]
    rfl
theorem map_inj {α β : Type} {f : α → β} (h : ∀ a b, f a = f b → a = b) : ∀ {xs ys : List α}, xs.map f = ys.map f → xs = ys
  | [], [], _ => rfl
  | [], _ :: _, e => by cases e
  | _ :: _, [], e => by cases e
  | x :: xs, y :: ys, e => by
    injection e with e1 e2
    rw [h x y e1, map_inj h e2]
noncomputable def kFr (f : Fr) : NK := .tup [.num f.1, .num f.2]
noncomputable def kSp (s : Spot) : NK := .tup (s.map kFr)
theorem toK_fr (f : Fr) : toK (fr f) = some (kFr f) := rfl
theorem toK_frs (s : Spot) : toK (frs s) = some (kSp s) := by
  show (toKs (s.map fr)).map NestedKey.tup = _
  rw [toKs_map toK_fr]
  rfl
theorem kk_bod (b : List Spot) : kk (b.map frs) = .tup (b.map kSp) := by
  show ((toKs (b.map frs)).map NestedKey.tup).getD .none = _
  rw [toKs_map toK_frs]
  rfl
theorem kFr_inj (f g : Fr) (h : kFr f = kFr g) : f = g := by
  unfold kFr at h
  injection h with h
  injection h with h1 h2
  injection h2 with h2 _
  injection h1 with h1
  injection h2 with h2
  exact Prod.ext h1 h2
theorem kSp_inj (s t : Spot) (h : kSp s = kSp t) : s = t := by
  unfold kSp at h
  injection h with h
  exact map_inj kFr_inj h
theorem kb_inj (b c : List Spot) (h : kk (b.map frs) = kk (c.map frs)) : b = c := by
  rw [kk_bod, kk_bod] at h
  injection h with h
  exact map_inj kSp_inj h
theorem depth_map {α : Type} {ke : α → NK} {n : Nat} (h : ∀ a, (ke a).depth ≤ n) : ∀ xs : List α, NestedKey.depthAll (xs.map ke) ≤ n
  | [] => by simp [NestedKey.depthAll]
  | x :: xs => by
    rw [List.map_cons, NestedKey.depthAll]
    have h1 := h x
    have h2 := depth_map h xs
    omega
theorem kg_bod (b : List Spot) : KG (b.map frs) := qt_of (by simp (disch := with_unfolding_all
  unfold KG
  rw [kk_bod]
  refine ⟨?_, _, rfl⟩
  have h1 : ∀ f : Fr, (kFr f).depth ≤ 2 := fun f => by unfold kFr; simp [NestedKey.depth, NestedKey.depthAll]
  have h2 : ∀ s : Spot, (kSp s).depth ≤ 3 := fun s => by
    unfold kSp
    rw [NestedKey.depth]
    have := depth_map h1 s
    omega
  rw [NestedKey.depth]
  have := depth_map h2 b
  omega
  ) only [↓qt_eq])
end U.N

end
section
namespace U.N
open PySem PyProof.Rows L2 Evl
section
variable {K : Fg} {cs : Cs} {W : WX} {G : Gam} {φ : PyData → Prop} {ε : Xw → Prop}
/-! ### max and min of a list of whole numbers -/
end
end U.N

end
section
namespace U.N
open PySem PyProof.Rows L2 Evl
section
variable {K : Fg} {cs : Cs} {W : WX} {G : Gam} {φ : PyData → Prop} {ε : Xw → Prop}
end
end U.N

end
section
namespace U.N
open PySem PyProof.Rows L2 Evl
section
variable {K : Fg} {cs : Cs} {W : WX} {G : Gam} {Φ : Out → Prop}
end
end U.N

end
section
namespace U.N
open PySem PyProof.Rows L2 Evl
section
variable {K : Fg} {cs : Cs} {W : WX} {G : Gam} {γ : Gam → Prop}
end
end U.N

end
section
/-! Defs as values: a def that tells a def by a text, and calls by a name that holds one. -/
namespace U.N
open PySem PyProof.Rows L2 Evl
noncomputable abbrev FTab := List (Str × Addr)
section
variable {K : Fg} {cs : Cs} {W : WX} {G : Gam} {φ : PyData → Prop} {ε : Xw → Prop} {Φ : Out → Prop} {t u : TE} {ta : TA} {i : Nat} {f : Addr} {P : Pr} {tab : FTab} {e : Xw}
end
/-! ### the body of such a def -/
section
variable (K : Fg) (cs : Cs) (W : WX)
end
section
variable {K : Fg} {cs : Cs} {W : WX} {G : Gam} {A : Addr → Prop} {ε : Xw → Prop} {t1 t2 : TS} {w : World} {f md : Addr} {i : Nat} {z : Str}
end
section
variable {Pg : Program} {w : World} {K : Fg} {mg : Str → Option Value} {base : Heap} {cs : Cs}
end
end U.N

end
section
/-! list(d), d a dict of one's own: its keys, in the order in which they came. -/
namespace U
open PySem PySem.W PyProof.Rows L2 Evl
end U
namespace U.N
open PySem PyProof.Rows L2 Evl
section
variable {K : Fg} {cs : Cs} {W : WX} {G : Gam} {φ : PyData → Prop} {χ : Own → Prop} {ε : Xw → Prop} {w : World} {i ep : Nat} {kvs : Kvs}
end
end U.N

end
section
/-! sorted(set(xs)), xs a list of tuples of whole numbers. -/
namespace U
open PySem PySem.W PyProof.Rows L2 Evl
end U

end
section
/-! sorted(set(xs)), told to the readings. -/
namespace U.N
open PySem PyProof.Rows L2 Evl
section
variable {K : Fg} {cs : Cs} {W : WX} {G : Gam} {φ : PyData → Prop} {χ : Own → Prop} {ε : Xw → Prop} {te : TE} {P : Program} {w : World}
end
end U.N

end
section
/-! sorted(set(xs)) as a term; xs.insert(0, y). -/
namespace U.N
open PySem PyProof.Rows L2 Evl
noncomputable def rIns : V → List V → Hp → VK → Prop := fun x vs H Q => ∃ (l : Addr) (xs : List V) (i : Int) (y : V), x = .ref l ∧ vs = [.int i, y] ∧ H l = some (.lst xs) ∧ xs.length < sizeLine ∧ 0 ≤ i ∧ i < 2 ^ 63 ∧ Q .non (upd H l (.lst (xs.take i.toNat ++ [y] ++ xs.drop i.toNat)))
theorem mt_ins {X : Cx} : MtR X "list.insert" rIns := mt_insert
section
variable {K : Fg} {cs : Cs} {W : WX} {G : Gam} {φ : PyData → Prop} {ε : Xw → Prop} {Φ : Out → Prop} {te : TE}
end
end U.N

end
section
/-! Texts: len, signs, slices, in, int(text), str(number), +, *, f-strings, partition, find, count, join. -/
namespace U.N
open PySem PyProof.Rows L2 Evl
/-! ### relations by name -/
section
variable {X : Cx} {o e : Expr} {to te : TE}
end
/-! ### isinstance(why, a built-in class) -/
end U.N
namespace U
open PySem PyProof.Rows L2 Evl
end U
namespace U.N
open PySem PyProof.Rows L2 Evl
/-! ### what suffices -/
section
variable {K : Fg} {cs : Cs} {W : WX} {G : Gam} {φ : PyData → Prop} {ε : Xw → Prop} {ι : List PyData → Prop} {te ta tb : TE}
end
end U.N

end
section
/-! An empty dict among data: displays that hold one, names and arguments that are one. -/
namespace U.N
open PySem PyProof.Rows L2 Evl
/-- the empty dict, that stays as it is -/
noncomputable def od0 : Own := ⟨[], fun _ _ => .dK []⟩
/-- data, or (none) the empty dict -/
noncomputable def DpO (K : Fg) (M : Hp) (v : V) : Option PyData → Prop
  | some x => Dp K M v x
  | none => ∃ a, v = .ref a ∧ M a = some (.dK [])
inductive DpOs (K : Fg) (M : Hp) : List V → List (Option PyData) → Prop
  | nil : DpOs K M [] []
  | cons {v : V} {vs : List V} {o : Option PyData} {os : List (Option PyData)} : DpO K M v o → DpOs K M vs os → DpOs K M (v :: vs) (o :: os)
theorem dpo_mono {K : Fg} {M M' : Hp} {v : V} (e : Ex M M') : ∀ {o : Option PyData}, DpO K M v o → DpO K M' v o
  | some _, h => dp_mono e h
  | none, ⟨a, h1, h2⟩ => ⟨a, h1, e _ _ h2⟩
theorem dpos_mono {K : Fg} {M M' : Hp} (e : Ex M M') : ∀ {vs : List V} {os : List (Option PyData)}, DpOs K M vs os → DpOs K M' vs os
  | _, _, .nil => .nil
  | _, _, .cons h t => .cons (dpo_mono e h) (dpos_mono e t)
theorem dpos_len {K : Fg} {M : Hp} : ∀ {vs : List V} {os : List (Option PyData)}, DpOs K M vs os → vs.length = os.length
  | _, _, .nil => rfl
  | _, _, .cons _ t => congrArg (· + 1) (dpos_len t)
theorem dpos_get {K : Fg} {M : Hp} : ∀ {vs : List V} {os : List (Option PyData)}, DpOs K M vs os → ∀ (i : Nat) (o : Option PyData), os[i]? = some o → ∃ v, vs[i]? = some v ∧ DpO K M v o
  | _, _, .cons h t, 0, o, e => by simp only [List.getElem?_cons_zero, Option.some.injEq] at e; subst e; exact ⟨_, rfl, h⟩
  | _, _, .cons h t, i + 1, o, e => by
    obtain ⟨v, g1, g2⟩ := dpos_get t i o (by simpa using e)
    exact ⟨v, by simpa using g1, g2⟩
section
variable (K : Fg) (cs : Cs) (W : WX)
noncomputable def EWO (te : TE) (G : Gam) (φ : Option PyData → Prop) (ε : Xw → Prop) : Prop :=
  ∀ Wd B ad H0 H σ, Sta K Wd B ad H0 H σ G → ∀ Q : VK, (∀ x, φ x → ∀ v H2, Sta K Wd B ad H0 H2 σ G → Xb B H H2 → DpO K (less H2 (Zs Wd B ad G)) v x → Q v H2) → XP K cs W Wd B ad H0 H σ G ε → te σ H Q
noncomputable def AWO (ta : TA) (G : Gam) (α : List (Option PyData) → Prop) (ε : Xw → Prop) : Prop :=
  ∀ Wd B ad H0 H σ, Sta K Wd B ad H0 H σ G → ∀ Q : List V → Hp → Prop, (∀ xs, α xs → ∀ vs H2, Sta K Wd B ad H0 H2 σ G → Xb B H H2 → DpOs K (less H2 (Zs Wd B ad G)) vs xs → Q vs H2) → XP K cs W Wd B ad H0 H σ G ε → ta σ H Q
end
/-- a def that never raises, its first argument data or the empty dict -/
noncomputable def spWF0 (K : Fg) (P P1 : Pr) : Sp := fun vs H Q E => spW0 K P vs H Q E ∨ ∃ (Wd : Addr → Prop) (a : Addr) (us : List V) (ds : List PyData) (A : Rs → Prop), vs = .ref a :: us ∧ (∀ b, Wd b → ∃ o, H b = some o) ∧ less H Wd a = some (.dK []) ∧ DpAll K (less H Wd) us ds ∧ P1 ds A ∧ okRs H K Wd Q A
/-- .. that may raise -/
noncomputable def spWF (K : Fg) (cs : Cs) (P P1 : Pr) : Sp := fun vs H Q E => spW K cs P vs H Q E ∨ ∃ (Wd : Addr → Prop) (a : Addr) (us : List V) (ds : List PyData) (A : Rs → Prop), vs = .ref a :: us ∧ (∀ b, Wd b → ∃ o, H b = some o) ∧ less H Wd a = some (.dK []) ∧ DpAll K (less H Wd) us ds ∧ P1 ds A ∧ okRs H K Wd Q A ∧
  ∀ e, A (.er e) → ∀ d H', Ex H H' → H d = none → H' d = some (.xd e.fs) → E (.ref (cs e.cls)) (some d) H'
section
variable {K : Fg} {cs : Cs} {W : WX} {G : Gam} {ta tb te : TE} {tr tk : TA} {φ : PyData → Prop} {χ : Option PyData → Prop} {α : List (Option PyData) → Prop} {ε : Xw → Prop} {Φ : Out → Prop} {P P1 : Pr} {dvs : List V} {des : List PyData} {E : XK}
theorem eo_of (h : EW K cs W te G (fun x => χ (some x)) ε) : EWO K cs W te G χ ε := fun Wd B ad H0 H σ S Q q x => h Wd B ad H0 H σ S Q (fun y p v H2 S2 e2 d2 => q (some y) p v H2 S2 e2 d2) x
theorem eo_dct (p : χ none) : EWO K cs W tDNewK G χ ε := fun Wd B ad H0 H σ S Q q _ a hn => by
  obtain ⟨S2, e2, g⟩ := new_ex (o := .dK []) S hn
  exact q _ p _ _ S2 e2 ⟨a, rfl, g⟩
theorem eo_fz {i : Nat} (hi : G[i]? = some (.fz od0)) (p : χ none) : EWO K cs W (tVar i) G χ ε := fun Wd B ad H0 H σ S Q q _ => by
  obtain ⟨o, g1, a, vs, rfl, g3, g4⟩ := S.at_ i _ hi
  exact ⟨_, g1, q _ p _ H S Xb.refl ⟨a, rfl, g3⟩⟩
theorem ao_nil (p : α []) : AWO K cs W tNil G α ε := fun Wd B ad H0 H σ S Q q _ => q _ p _ H S Xb.refl .nil
theorem ao_cons (h : EWO K cs W ta G (fun x => AWO K cs W tr G (fun xs => α (x :: xs)) ε) ε) : AWO K cs W (tCons ta tr) G α ε := fun Wd B ad H0 H σ S Q q x =>
  h Wd B ad H0 H σ S _ (fun x1 p1 v H1 S1 e1 d1 => p1 Wd B ad H0 H1 σ S1 _ (fun xs p2 vs H2 S2 e2 d2 => q _ p2 _ H2 S2 (e1.trans e2) (.cons (dpo_mono (Xb.lz e2) d1) d2)) (x.go e1)) x
/-- [a, b, {}, ..][i] -/
theorem eo_pick (h : AWO K cs W tr G (fun os => os.length ≤ 1000 ∧ EW K cs W tb G (fun y => ∃ (i : Nat) (o : Option PyData), y = .int i ∧ os[i]? = some o ∧ χ o) ε) ε) : EWO K cs W (tOp (rIx K) (tLst tr) tb) G χ ε := fun Wd B ad H0 H σ S Q q x =>
  h Wd B ad H0 H σ S _ (fun os ⟨hl, hb⟩ vs H1 S1 e1 d1 => ⟨by rw [dpos_len d1]; exact sz_line (by omega), fun p hp => by
    obtain ⟨S2, e2, g⟩ := new_ex (o := .lst vs) S1 hp
    have e12 := e1.trans e2
    refine hb Wd B ad H0 _ σ S2 _ (fun y ⟨i, o, ey, ho, pc⟩ u H3 S3 e3 d3 => ?_) (x.go e12)
    subst ey
    cases d3
    obtain ⟨v, g1, g2⟩ := dpos_get (dpos_mono ((Xb.lz e2).trans (Xb.lz e3)) d1) i o ho
    exact .inl ⟨p, vs, i, v, rfl, rfl, ex_l less_ex (sq_of (Xb.lz e3 _ _ g)), atI_nat g1, q _ pc _ H3 S3 (e12.trans e3) g2⟩⟩) x
theorem okrs_of {Wd : Addr → Prop} {B : Option (Addr × Addr)} {ad : Nat → Addr} {H0 H H2 : Hp} {σ : St} {Q : VK} {ε' : Xw → Prop} (S2 : Sta K Wd B ad H0 H2 σ G) (e : Xb B H H2) (q : ∀ x, φ x → ∀ v H3, Sta K Wd B ad H0 H3 σ G → Xb B H H3 → Dp K (less H3 (Zs Wd B ad G)) v x → Q v H3) : okRs H2 K (Zs Wd B ad G) Q (rE φ ε') :=
  ⟨fun y p v H' e' d => q y p v H' (S2.ext e') (e.trans (.of e')) d, fun c p a us H' e' hn ho d => by
    obtain ⟨xs, rfl, p⟩ := p
    exact q _ p _ H' (S2.ext e') (e.trans (.of e')) (.lst (sq_of (less_of (S2.fresh hn).2.2 ho)) (dpa_mono (less_sub fun b z => .inl z) d))⟩
theorem ew_callF0 (hd : ∀ H, DpAll K H dvs des) (h : EWO K cs W te G (fun o => AW K cs W tr G (fun ds => match o with | some x => P (x :: (ds ++ des)) (rE φ fun _ => False) | none => P1 (ds ++ des) (rE φ fun _ => False)) ε) ε) : EW K cs W (tCall (spWF0 K P P1) dvs E (tCons te tr)) G φ ε := fun Wd B ad H0 H σ S Q q x =>
  h Wd B ad H0 H σ S _ (fun o h2 v H1 S1 e1 d1 => h2 Wd B ad H0 H1 σ S1 _ (fun ds hp vs H2 S2 e2 d2 => by
    have ok := okrs_of (φ := φ) (ε' := fun _ => False) S2 (e1.trans e2) q
    cases o with
    | some y => exact .inl ⟨Zs Wd B ad G, y :: (ds ++ des), _, S2.there, .cons (dp_mono (Xb.lz e2) d1) (dpa_app d2 (hd _)), hp, ok⟩
    | none =>
      obtain ⟨a, rfl, g⟩ := d1
      exact .inr ⟨Zs Wd B ad G, a, vs ++ dvs, ds ++ des, _, rfl, S2.there, Xb.lz e2 _ _ g, dpa_app d2 (hd _), hp, ok⟩) (x.go e1)) x
theorem ew_callF (hd : ∀ H, DpAll K H dvs des) (h : EWO K cs W te G (fun o => AW K cs W tr G (fun ds => match o with | some x => P (x :: (ds ++ des)) (rE φ ε) | none => P1 (ds ++ des) (rE φ ε)) ε) ε) : EW K cs W (tCallSD (spWF K cs P P1) dvs (WE W) (tCons te tr)) G φ ε := fun Wd B ad H0 H σ S Q q x =>
  h Wd B ad H0 H σ S _ (fun o h2 v H1 S1 e1 d1 => h2 Wd B ad H0 H1 σ S1 _ (fun ds hp vs H2 S2 e2 d2 => by
    have ok := okrs_of (φ := φ) (ε' := ε) S2 (e1.trans e2) q
    have xr : ∀ e, rE φ ε (.er e) → ∀ d H', Ex H2 H' → H2 d = none → H' d = some (.xd e.fs) → WE W σ (.ref (cs e.cls)) (some d) H' := fun e p d H' e3 hn hx => x e p d H' (S2.ext e3) ((e1.trans e2).trans (.of e3)) (S2.fresh hn).1 (less_of (S2.fresh hn).2.2 hx)
    cases o with
    | some y => exact .inl ⟨Zs Wd B ad G, y :: (ds ++ des), _, S2.there, .cons (dp_mono (Xb.lz e2) d1) (dpa_app d2 (hd _)), hp, ok, xr⟩
    | none =>
      obtain ⟨a, rfl, g⟩ := d1
      exact .inr ⟨Zs Wd B ad G, a, vs ++ dvs, ds ++ des, _, rfl, S2.there, Xb.lz e2 _ _ g, dpa_app d2 (hd _), hp, ok, xr⟩) (x.go e1)) x
/-- .. with keyword arguments -/
theorem ew_callNF {n m : Nat} (h : EWO K cs W te G (fun o => AW K cs W tr G (fun ds => AW K cs W tk G (fun es => ds.length + 1 = n ∧ es.length = m ∧ match o with | some x => P (x :: (ds ++ es)) (rE φ ε) | none => P1 (ds ++ es) (rE φ ε)) ε) ε) ε) : EW K cs W (tCallNS n m (spWF K cs P P1) (fun vs zs => vs ++ zs) (WE W) (tCons te tr) tk) G φ ε := fun Wd B ad H0 H σ S Q q x =>
  h Wd B ad H0 H σ S _ (fun o h1 v H1 S1 e1 d1 => h1 Wd B ad H0 H1 σ S1 _ (fun ds h2 vs H2 S2 e2 d2 => h2 Wd B ad H0 H2 σ S2 _ (fun es ⟨hn, hm, hp⟩ zs H3 S3 e3 d3 => by
    have ok := okrs_of (φ := φ) (ε' := ε) S3 ((e1.trans e2).trans e3) q
    have xr : ∀ e, rE φ ε (.er e) → ∀ d H', Ex H3 H' → H3 d = none → H' d = some (.xd e.fs) → WE W σ (.ref (cs e.cls)) (some d) H' := fun e p d H' e4 hn hx => x e p d H' (S3.ext e4) (((e1.trans e2).trans e3).trans (.of e4)) (S3.fresh hn).1 (less_of (S3.fresh hn).2.2 hx)
    refine ⟨by rw [List.length_cons, dpa_len d2]; exact hn, (dpa_len d3).trans hm, ?_⟩
    cases o with
    | some y => exact .inl ⟨Zs Wd B ad G, y :: (ds ++ es), _, S3.there, .cons (dp_mono ((Xb.lz e2).trans (Xb.lz e3)) d1) (dpa_app (dpa_mono (Xb.lz e3) d2) d3), hp, ok, xr⟩
    | none =>
      obtain ⟨a, rfl, g⟩ := d1
      exact .inr ⟨Zs Wd B ad G, a, vs ++ zs, ds ++ es, _, rfl, S3.there, Xb.lz e3 _ _ (Xb.lz e2 _ _ g), dpa_app (dpa_mono (Xb.lz e3) d2) d3, hp, ok, xr⟩) (x.go (e1.trans e2))) (x.go e1)) x
/-- isinstance(x, (S, T)), x the empty dict -/
theorem ew_isiF2 {i : Nat} {n m : String} {b c : Bool} (hi : G[i]? = some (.fz od0)) (hb : kitB "dict" n = some b) (hc : kitB "dict" m = some c) (p : φ (.bool (b || c))) : EW K cs W (tCB (rIsiT K) (tCons (tVar i) (tCons (tTup (tCons (tC (.ty n)) (tCons (tC (.ty m)) tNil))) tNil))) G φ ε := fun Wd B ad H0 H σ S Q q x => by
  obtain ⟨o, g1, a, vs, rfl, g3, g4⟩ := S.at_ i _ hi
  refine ⟨_, g1, by show 2 ≤ sizeLine; decide, fun l hl => ?_⟩
  obtain ⟨S2, e2, g⟩ := new_ex (o := .tup [V.ty n, V.ty m]) S hl
  refine ⟨.ref a, l, [.ty n, .ty m], _, [.type n, .type m], b || c, rfl, (less_some g).2, .cons (.ty n) (.cons (.ty m) .nil), .base (.dK (less_some (Xb.lz e2 _ _ g3)).2), kitAny_cons (kit_ty hb) (fun e => kitAny_cons (kit_ty hc) (fun e2 => ?_) fun e2 => ?_) (fun e => ?_), q _ p _ _ S2 e2 (.bl _)⟩
  · rw [e, e2]; rfl
  · rw [e, e2]; rfl
  · rw [e]; rfl
end
/-! ### the bodies of such defs -/
section
variable {Pg : Program} {w : World} {K : Fg} {mg : Str → Option Value} {base : Heap} {cs : Cs}
theorem staF {N : List Str} {Wd : Addr → Prop} {H : Hp} {a : Addr} {vs : List V} {ds : List PyData} (hW : ∀ a, Wd a → ∃ o, H a = some o) (ha : less H Wd a = some (.dK [])) (hd : DpAll K (less H Wd) vs ds) :
    Sta K Wd none (fun _ => 0) H H (L2.start N (.ref a :: vs)) (.fz od0 :: frame (N.length - 1) ds) := qt_of (by simp (disch := with_unfolding_all
  have no : ∀ (i : Nat) (l : Own), (En.fz od0 :: frame (N.length - 1) ds)[i]? ≠ some (En.ow l) := fun i l h => by
    cases i with
    | zero => cases h
    | succ i => rcases frame_get h with ⟨d, _, e⟩ | ⟨_, e⟩ <;> cases e
  have zz : ∀ b, Zs Wd none (fun _ => 0) (En.fz od0 :: frame (N.length - 1) ds) b → Wd b := by
    rintro b (z | ⟨i, l, g, _⟩ | ⟨b, c, z, _⟩)
    · exact z
    · exact absurd g (no i l)
    · cases z
  have ln : (L2.start N (.ref a :: vs)).length = (En.fz od0 :: frame (N.length - 1) ds).length := by
    rw [start_len, List.length_cons, List.length_cons, dpa_len hd, frame_len]
    omega
  refine ⟨ln, fun i e h => ?_, fun i j c c' g => absurd g (no i c), fun i c g => absurd g (no i c), fun a o h _ => h, ⟨_, bag_ok0, trivial⟩, hW⟩
  cases i with
  | zero =>
    cases h
    exact ⟨some (.ref a), rfl, a, [], rfl, less_sub zz _ _ ha, .nil⟩
  | succ i =>
    rcases frame_get h with ⟨d, hi, rfl⟩ | ⟨hi, rfl⟩
    · obtain ⟨v, hv, dv⟩ := dpa_get hd hi
      exact ⟨some v, start_get (show (V.ref a :: vs)[i + 1]? = some v from hv), v, rfl, dp_mono (less_sub zz) dv⟩
    · have il : i + 1 < (L2.start N (.ref a :: vs)).length := by
        rw [ln]; exact (List.getElem?_eq_some_iff.mp h).1
      exact ⟨_, List.getElem?_eq_getElem il, trivial⟩
  ) only [↓qt_eq])
theorem runF0 {N : List Str} {Wd : Addr → Prop} {H : Hp} {a : Addr} {vs : List V} {ds : List PyData} {A : Rs → Prop} {t : TS} {Q : VK} (hW : ∀ a, Wd a → ∃ o, H a = some o) (ha : less H Wd a = some (.dK [])) (hd : DpAll K (less H Wd) vs ds) (h : SW K cs W0 t (.fz od0 :: frame (N.length - 1) ds) (rts0 A)) (q : okRs H K Wd Q A) :
    t { nx := fun _ H' => Q .non H', rt := Q } (L2.start N (.ref a :: vs)) H := qt_of (by simp (disch := with_unfolding_all
  refine h Wd none (fun _ => 0) H H _ _ (staF hW ha hd) fun o p => ?_
  cases o with
  | rt x => exact fun v H' e _ d => q.1 x p v H' (xb_none e) (by rw [sz_none] at d; exact d)
  | rl c => exact fun a us H' e _ hn ho d => q.2 c p a us H' (xb_none e) hn ho (dpa_mono (less_sub fun b z => by rcases z with z | z; exact .inl (.inl z); exact .inr z) d)
  | nx G => exact fun ad H' σ S _ => q.1 _ p _ H' (xb_none fun a o h n => S.base a o h n) .non
  | bk G => exact p.elim
  | ct G => exact p.elim
  | ex e G => exact p.elim
  ) only [↓qt_eq])
theorem runFX {N : List Str} {Wd : Addr → Prop} {H : Hp} {a : Addr} {vs : List V} {ds : List PyData} {A : Rs → Prop} {t : TS} {Q : VK} {E : XK} (hW : ∀ a, Wd a → ∃ o, H a = some o) (ha : less H Wd a = some (.dK [])) (hd : DpAll K (less H Wd) vs ds) (h : SW K cs (WD E) t (.fz od0 :: frame (N.length - 1) ds) (rts A)) (q : okRs H K Wd Q A) (x : ∀ e, A (.er e) → ∀ d H', Ex H H' → H d = none → H' d = some (.xd e.fs) → E (.ref (cs e.cls)) (some d) H') :
    t { nx := fun _ H' => Q .non H', rt := Q } (L2.start N (.ref a :: vs)) H := qt_of (by simp (disch := with_unfolding_all
  refine h Wd none (fun _ => 0) H H _ _ (staF hW ha hd) fun o p => ?_
  cases o with
  | rt x => exact fun v H' e _ d => q.1 x p v H' (xb_none e) (by rw [sz_none] at d; exact d)
  | rl c => exact fun a us H' e _ hn ho d => q.2 c p a us H' (xb_none e) hn ho (dpa_mono (less_sub fun b z => by rcases z with z | z; exact .inl (.inl z); exact .inr z) d)
  | nx G => exact fun ad H' σ S _ => q.1 _ p _ H' (xb_none fun a o h n => S.base a o h n) .non
  | bk G => exact p.elim
  | ct G => exact p.elim
  | ex e G => exact fun d ad H' σ S _ hn hx => x e p d H' (xb_none fun a o h n => S.base a o h n) hn (less_some hx).2
  ) only [↓qt_eq])
theorem okWF0 {x qual : Str} {st : Stmt} {f : Addr} {fd : FuncData} {N ps : List Str} {k : Nat} {P P1 : Pr} (cs : Cs) (F : Fun K x qual st f fd) (S : FnScope N ps (defScope st)) (hl : ∀ ds A, P ds A → ds.length = ps.length) (hl1 : ∀ ds A, P1 ds A → ds.length + 1 = ps.length)
    (hb : ∀ (cdv : Value) (Ar : Around) (outer : List Env) (sh : Shared) (H : Hp) (E : XK), Room k (Ar.deeper (envOfC qual (defScope st) sh.heap.objs.size f cdv)) →
      ∃ t, PSs (cxOf CX0 Pg w K mg base N qual (defScope st) f cdv Ar outer sh H E).nox (defBody st) t ∧ (∀ ds A, P ds A → SW K cs W0 t (frame N.length ds) (rts0 A)) ∧ ∀ ds A, P1 ds A → SW K cs W0 t (.fz od0 :: frame (N.length - 1) ds) (rts0 A)) : FnOk Pg w K mg base CX0 (k + 1) f fd ps (spWF0 K P P1) := qt_of (by simp (disch := with_unfolding_all
  refine F.ok S (fun vs H Q E h => ?_) (fun cdv Ar outer sh H vs Q E hr h => ?_)
  · rcases h with ⟨Wd, ds, A, _, hd, hp, _⟩ | ⟨Wd, a, us, ds, A, rfl, _, _, hd, hp, _⟩
    · rw [dpa_len hd]
      exact hl ds A hp
    · rw [List.length_cons, dpa_len hd]
      exact hl1 ds A hp
  · obtain ⟨t, ht, g, g1⟩ := hb cdv Ar outer sh H E hr
    refine ⟨t, ht, ?_⟩
    rcases h with ⟨Wd, ds, A, hW, hd, hp, q⟩ | ⟨Wd, a, us, ds, A, rfl, hW, ha, hd, hp, q⟩
    · exact run0 hW hd (g ds A hp) q
    · exact runF0 hW ha hd (g1 ds A hp) q
  ) only [↓qt_eq])
theorem okWFXD {x qual : Str} {st : Stmt} {dvs : List V} {kws : List (Str × V)} {f : Addr} {fd : FuncData} {N ps : List Str} {k : Nat} {P P1 : Pr} (F : FunD K x qual (defArgs st) (defBody st) (defScope st) dvs kws f fd) (S : FnScope N ps (defScope st)) (hl : ∀ ds A, P ds A → ds.length = ps.length) (hl1 : ∀ ds A, P1 ds A → ds.length + 1 = ps.length)
    (hb : ∀ (cdv : Value) (Ar : Around) (outer : List Env) (sh : Shared) (H : Hp) (E : XK), Room k (Ar.deeper (envOfC qual (defScope st) sh.heap.objs.size f cdv)) →
      ∃ t, PSs (cxOf (L2.CX Pg w) Pg w K mg base N qual (defScope st) f cdv Ar outer sh H E) (defBody st) t ∧ (∀ ds A, P ds A → SW K cs (WD E) t (frame N.length ds) (rts A)) ∧ ∀ ds A, P1 ds A → SW K cs (WD E) t (.fz od0 :: frame (N.length - 1) ds) (rts A)) :
    FnOk Pg w K mg base (L2.CX Pg w) (k + 1) f fd ps (spWF K cs P P1) := qt_of (by simp (disch := with_unfolding_all
  refine F.ok S (fun vs H Q E h => ?_) (fun cdv Ar outer sh H vs Q E hr h => ?_)
  · rcases h with ⟨Wd, ds, A, _, hd, hp, _⟩ | ⟨Wd, a, us, ds, A, rfl, _, _, hd, hp, _⟩
    · rw [dpa_len hd]
      exact hl ds A hp
    · rw [List.length_cons, dpa_len hd]
      exact hl1 ds A hp
  · obtain ⟨t, ht, g, g1⟩ := hb cdv Ar outer sh H E hr
    refine ⟨t, ht, ?_⟩
    rcases h with ⟨Wd, ds, A, hW, hd, hp, q, x⟩ | ⟨Wd, a, us, ds, A, rfl, hW, ha, hd, hp, q, x⟩
    · exact runX hW hd (g ds A hp) q x
    · exact runFX hW ha hd (g1 ds A hp) q x
  ) only [↓qt_eq])
end
end U.N

end
section
/-! The common number divides every common multiple. -/
namespace U
open PySem PyProof.Rows L2 Evl
theorem lcI_dvd {a b c : Int} (ha : 0 < a) (hb : 0 < b) (h1 : a ∣ c) (h2 : b ∣ c) : lcI a b ∣ c := qt_of (by simp (disch := with_unfolding_all
  have e : gI a b = (Nat.gcd a.natAbs b.natAbs : Int) := by
    unfold gI gN
    have : 0 < Nat.gcd a.natAbs b.natAbs := Nat.gcd_pos_of_pos_right _ (by omega)
    omega
  obtain ⟨x, rfl⟩ : ∃ x : Nat, a = x := ⟨a.toNat, by omega⟩
  obtain ⟨y, rfl⟩ : ∃ y : Nat, b = y := ⟨b.toNat, by omega⟩
  have e1 : lcI x y = (Nat.lcm x y : Int) := by
    unfold lcI
    rw [e, Int.fdiv_eq_ediv_of_nonneg _ (Int.natCast_nonneg _)]
    show ((x : Int) * y) / ((Nat.gcd x y : Nat) : Int) = _
    unfold Nat.lcm
    norm_cast
  rw [e1]
  exact Int.ofNat_dvd_left.mpr (Nat.lcm_dvd (Int.ofNat_dvd_left.mp h1) (Int.ofNat_dvd_left.mp h2))
  ) only [↓qt_eq])
theorem cbS_dvd {a : Nat} {c : Int} : ∀ {s : List Fr} {acc : Int}, Gds' a s → 0 < acc → acc ∣ c → (∀ f ∈ s, f.2 ∣ c) → 0 < cbS acc s ∧ cbS acc s ∣ c
  | [], acc, _, h, b, _ => ⟨h, b⟩
  | f :: s, acc, g, h, b, d => by
    have gf := g f (List.mem_cons_self ..)
    exact cbS_dvd (s := s) (acc := lcI acc f.2) (fun x hx => g x (List.mem_cons_of_mem _ hx)) (lcI_spec h gf.pos).1 (lcI_dvd h gf.pos b (d f (List.mem_cons_self ..))) fun x hx => d x (List.mem_cons_of_mem _ hx)
theorem cb_dvd {a : Nat} {c : Int} : ∀ {ss : List (List Fr)} {acc : Int}, (∀ s ∈ ss, Gds' a s) → 0 < acc → acc ∣ c → (∀ s ∈ ss, ∀ f ∈ s, f.2 ∣ c) → 0 < cb acc ss ∧ cb acc ss ∣ c
  | [], acc, _, h, b, _ => ⟨h, b⟩
  | s :: ss, acc, g, h, b, d => by
    obtain ⟨l1, l2⟩ := cbS_dvd (g s (List.mem_cons_self ..)) h b (d s (List.mem_cons_self ..))
    exact cb_dvd (ss := ss) (acc := cbS acc s) (fun x hx => g x (List.mem_cons_of_mem _ hx)) l1 l2 fun x hx => d x (List.mem_cons_of_mem _ hx)
theorem bd_dvd {n : Nat} {a c : Int} (hc : 0 < c) (h : a ∣ c) (b : Bd n c) : Bd n a := by
  unfold Bd at *
  exact Nat.lt_of_le_of_lt (Nat.le_of_dvd (by omega) (Int.natAbs_dvd_natAbs.mpr h)) b
/-- numbers of a bits, the numbers below with a common multiple of N bits -/
structure CbB (a N : Nat) (ss : List Spot) : Prop where
  gd : ∀ s ∈ ss, Gds a s
  cm : ∃ c0 : Int, 0 < c0 ∧ (∀ s ∈ ss, ∀ f ∈ s, f.2 ∣ c0) ∧ Bd N c0
theorem CbB.sub {a N : Nat} {ss ts : List Spot} (h : CbB a N ss) (k : ∀ s ∈ ts, s ∈ ss) : CbB a N ts := ⟨fun s hs => h.gd s (k s hs), h.cm.imp fun c ⟨h1, h2, h3⟩ => ⟨h1, fun s hs => h2 s (k s hs), h3⟩⟩
theorem CbB.spc {a N : Nat} {ss : List Spot} (h : CbB a N ss) : 0 < cb 1 ss ∧ (∀ s ∈ ss, SpC (cb 1 ss) s) ∧ Bd N (cb 1 ss) := qt_of (by simp (disch := with_unfolding_all
  obtain ⟨c0, h1, h2, h3⟩ := h.cm
  obtain ⟨k1, k2⟩ := cb_dvd (acc := 1) h.gd (by decide) (Int.one_dvd _) h2
  refine ⟨k1, fun s hs => ⟨⟨a, h.gd s hs⟩, ?_⟩, bd_dvd h1 k2 h3⟩
  have key : ∀ {ss : List Spot} {acc : Int}, (∀ s ∈ ss, Gds' a s) → 0 < acc → acc ∣ cb acc ss ∧ ∀ s ∈ ss, ∀ f ∈ s, f.2 ∣ cb acc ss := fun {ss} => by
    induction ss with
    | nil => intro acc _ _; exact ⟨Int.dvd_refl _, by simp⟩
    | cons s ss ih =>
      intro acc g ha
      obtain ⟨B, hB⟩ : ∃ n, Bd n acc := ⟨acc.natAbs, Nat.lt_two_pow_self⟩
      obtain ⟨l1, l2, l3, l4⟩ := cbS_spec (g s (List.mem_cons_self ..)) ha hB
      obtain ⟨i1, i2⟩ := ih (acc := cbS acc s) (fun x hx => g x (List.mem_cons_of_mem _ hx)) l1
      refine ⟨Int.dvd_trans l2 i1, fun x hx f hf => ?_⟩
      rcases List.mem_cons.mp hx with rfl | hx
      · exact Int.dvd_trans (l3 f hf) i1
      · exact i2 x hx f hf
  exact (key h.gd (by decide)).2 s hs
  ) only [↓qt_eq])
theorem CbB.of {a r : Nat} {ss : List Spot} (h : ∀ s ∈ ss, Gds a s ∧ s.length ≤ r) : CbB a (1 + ss.length * (r * a)) ss := by
  obtain ⟨h1, _, h3, h4⟩ := cb_spec (n := 1) (acc := 1) h (by decide) (by unfold Bd; decide)
  exact ⟨fun s hs => (h s hs).1, _, h1, h3, h4⟩
theorem CbB.mono {a N a' N' : Nat} {ss : List Spot} (h : CbB a N ss) (h1 : a ≤ a') (h2 : N ≤ N') : CbB a' N' ss := ⟨fun s hs => (h.gd s hs).mono h1, h.cm.imp fun c ⟨k1, k2, k3⟩ => ⟨k1, k2, k3.mono h2⟩⟩
end U

end
section
/-! Corners round: plain geometry over the rationals. -/
namespace U.Hull
structure Pt where
  x : Rat
  y : Rat
deriving DecidableEq
noncomputable def sub (a b : Pt) : Pt := ⟨a.x - b.x, a.y - b.y⟩
/-- the area by which two steps span -/
noncomputable def cr (u v : Pt) : Rat := u.x * v.y - u.y * v.x
/-- > 0: c lies to the left of a → b -/
noncomputable def tn (a b c : Pt) : Rat := cr (sub b a) (sub c a)
/-- steps onward (b = false), steps back (b = true) -/
noncomputable def Fw (b : Bool) (u : Pt) : Prop := if b then u.x < 0 ∨ (u.x = 0 ∧ u.y < 0) else 0 < u.x ∨ (u.x = 0 ∧ 0 < u.y)
theorem cr_self (u : Pt) : cr u u = 0 := by unfold cr; grind
theorem cr_anti (u v : Pt) : cr v u = - cr u v := by unfold cr; grind
theorem mul_nn {a b : Rat} (ha : 0 ≤ a) (hb : 0 ≤ b) : 0 ≤ a * b := Rat.mul_nonneg ha hb
theorem mul_pp {a b : Rat} (ha : 0 < a) (hb : 0 < b) : 0 < a * b := Rat.mul_pos ha hb
/-- among steps onward, those to the left of one another go on -/
theorem tr0 {u v w : Pt} (hu : Fw false u) (hv : Fw false v) (hw : Fw false w) (h1 : 0 ≤ cr u v) (h2 : 0 ≤ cr v w) : 0 ≤ cr u w := qt_of (by simp (disch := with_unfolding_all
  have key : cr u w * v.x = cr u v * w.x + cr v w * u.x := by unfold cr; grind
  simp only [Fw, Bool.false_eq_true, if_false] at hu hv hw
  have ux : 0 ≤ u.x := by grind
  have wx : 0 ≤ w.x := by grind
  rcases hv with hv | ⟨vx, vy⟩
  · have := mul_nn h1 wx
    have := mul_nn h2 ux
    apply Classical.byContradiction
    intro hn
    have hn : cr u w < 0 := Rat.not_le.mp hn
    have := mul_pp (a := - cr u w) (b := v.x) (by grind) hv
    grind
  · unfold cr at h1 h2 ⊢
    rw [vx] at h1 h2
    have w0 : w.x = 0 := by
      apply Classical.byContradiction
      intro hn
      have : 0 < w.x := by grind
      have := mul_pp vy this
      grind
    have wy : 0 < w.y := by grind
    rw [w0]
    have := mul_nn ux (Rat.le_of_lt wy)
    grind
  ) only [↓qt_eq])
theorem tr1 {u v w : Pt} (hu : Fw false u) (hv : Fw false v) (hw : Fw false w) (h1 : 0 < cr u v) (h2 : 0 ≤ cr v w) : 0 < cr u w := qt_of (by simp (disch := with_unfolding_all
  have h3 := tr0 hu hv hw (Rat.le_of_lt h1) h2
  apply Classical.byContradiction
  intro hn
  have e : cr u w = 0 := by grind
  have h4 : 0 ≤ cr w u := by rw [cr_anti]; grind
  have h5 := tr0 hv hw hu h2 h4
  rw [cr_anti] at h5
  grind
  ) only [↓qt_eq])
theorem tr2 {u v w : Pt} (hu : Fw false u) (hv : Fw false v) (hw : Fw false w) (h1 : 0 ≤ cr u v) (h2 : 0 < cr v w) : 0 < cr u w := qt_of (by simp (disch := with_unfolding_all
  have h3 := tr0 hu hv hw h1 (Rat.le_of_lt h2)
  apply Classical.byContradiction
  intro hn
  have e : cr u w = 0 := by grind
  have h4 : 0 ≤ cr w u := by rw [cr_anti]; grind
  have h5 := tr0 hw hu hv h4 h1
  rw [cr_anti] at h5
  grind
  ) only [↓qt_eq])
noncomputable def neg (u : Pt) : Pt := ⟨-u.x, -u.y⟩
theorem fw_neg {u : Pt} : Fw true u ↔ Fw false (neg u) := by
  simp only [Fw, neg, if_true, Bool.false_eq_true, if_false]
  constructor <;> (intro h; grind)
theorem cr_neg (u v : Pt) : cr (neg u) (neg v) = cr u v := by unfold cr neg; grind
theorem tle {b : Bool} {u v w : Pt} (hu : Fw b u) (hv : Fw b v) (hw : Fw b w) (h1 : 0 ≤ cr u v) (h2 : 0 ≤ cr v w) : 0 ≤ cr u w := by
  cases b with
  | false => exact tr0 hu hv hw h1 h2
  | true => rw [← cr_neg] at *; exact tr0 (fw_neg.mp hu) (fw_neg.mp hv) (fw_neg.mp hw) h1 h2
theorem tlt1 {b : Bool} {u v w : Pt} (hu : Fw b u) (hv : Fw b v) (hw : Fw b w) (h1 : 0 < cr u v) (h2 : 0 ≤ cr v w) : 0 < cr u w := by
  cases b with
  | false => exact tr1 hu hv hw h1 h2
  | true => rw [← cr_neg] at *; exact tr1 (fw_neg.mp hu) (fw_neg.mp hv) (fw_neg.mp hw) h1 h2
theorem tlt2 {b : Bool} {u v w : Pt} (hu : Fw b u) (hv : Fw b v) (hw : Fw b w) (h1 : 0 ≤ cr u v) (h2 : 0 < cr v w) : 0 < cr u w := by
  cases b with
  | false => exact tr2 hu hv hw h1 h2
  | true => rw [← cr_neg] at *; exact tr2 (fw_neg.mp hu) (fw_neg.mp hv) (fw_neg.mp hw) h1 h2
theorem fw_add {b : Bool} {a c d : Pt} (h1 : Fw b (sub c a)) (h2 : Fw b (sub d c)) : Fw b (sub d a) := by
  cases b <;> simp only [Fw, sub, if_true, Bool.false_eq_true, if_false] at * <;> grind
/-! ### one side -/
noncomputable def pop (q : Pt) : List Pt → List Pt
  | t :: s :: r => if tn s t q ≤ 0 then pop q (s :: r) else t :: s :: r
  | l => l
noncomputable def Cv (b : Bool) : List Pt → Prop
  | t :: s :: r :: l => Fw b (sub t s) ∧ 0 < tn r s t ∧ Cv b (s :: r :: l)
  | [t, s] => Fw b (sub t s)
  | _ => True
noncomputable def Lf (P : List Pt) : List Pt → Prop
  | t :: s :: l => (∀ p ∈ P, 0 ≤ tn s t p) ∧ Lf P (s :: l)
  | _ => True
theorem Cv.tl {b : Bool} {t : Pt} {l : List Pt} (h : Cv b (t :: l)) : Cv b l := by
  match l, h with
  | [], _ => trivial
  | [s], _ => trivial
  | s :: r :: l, h => exact h.2.2
theorem Cv.fw {b : Bool} {t s : Pt} {l : List Pt} (h : Cv b (t :: s :: l)) : Fw b (sub t s) := by
  match l, h with
  | [], h => exact h
  | r :: l, h => exact h.1
theorem tn_eq (s t q : Pt) : tn s t q = cr (sub t s) (sub q t) := by unfold tn cr sub; grind
theorem fw_tri {b : Bool} {p s : Pt} (h : p ≠ s) : Fw b (sub s p) ∨ Fw b (sub p s) := qt_of (by simp (disch := with_unfolding_all
  have : p.x ≠ s.x ∨ p.y ≠ s.y := by
    apply Classical.byContradiction
    intro hn
    apply h
    cases p; cases s
    grind
  cases b <;> simp only [Fw, sub, if_true, Bool.false_eq_true, if_false] <;> grind
  ) only [↓qt_eq])
/-- the edges below see the new spot to their left -/
theorem deep {b : Bool} {q : Pt} : ∀ {l : List Pt} {t : Pt}, Cv b (t :: l) → Fw b (sub q t) → (∀ s, l.head? = some s → 0 < cr (sub t s) (sub q t)) → Lf [q] (t :: l)
  | [], t, _, _, _ => trivial
  | s :: l, t, hc, hq, h => by
    have h0 := h s rfl
    have fts := hc.fw
    have fqs : Fw b (sub q s) := fw_add fts hq
    refine ⟨fun p hp => ?_, deep (l := l) (t := s) hc.tl fqs fun r hr => ?_⟩
    · rw [List.mem_singleton.mp hp, tn_eq]; exact Rat.le_of_lt h0
    · match l, hr, hc with
      | r' :: l, hr, hc =>
        cases hr
        have h1 : 0 < cr (sub s r) (sub t s) := by have := hc.2.1; rwa [tn_eq] at this
        have h2 : 0 ≤ cr (sub t s) (sub q s) := by
          have : cr (sub t s) (sub q s) = cr (sub t s) (sub q t) := by unfold cr sub; grind
          rw [this]; exact Rat.le_of_lt h0
        exact tlt1 hc.tl.fw fts fqs h1 h2
theorem lf_and {P Q : List Pt} : ∀ {l : List Pt}, Lf P l → Lf Q l → Lf (P ++ Q) l
  | [], _, _ => trivial
  | [_], _, _ => trivial
  | t :: s :: l, h1, h2 => ⟨fun p hp => (List.mem_append.mp hp).elim (h1.1 p) (h2.1 p), lf_and h1.2 h2.2⟩
theorem pop_ok {b : Bool} {q : Pt} {P : List Pt} (hq : ∀ p ∈ P, Fw b (sub q p)) : ∀ {l : List Pt} {t : Pt}, Cv b (t :: l) → Lf P (t :: l) → (∀ p ∈ t :: l, p ∈ P) → (∀ p ∈ P, Fw b (sub p t) → 0 ≤ tn t q p) →
    (∀ e, (t :: l).getLast? = some e → ∀ p ∈ P, p = e ∨ Fw b (sub p e)) → Cv b (q :: pop q (t :: l)) ∧ Lf (P ++ [q]) (q :: pop q (t :: l))
  | [], t, hc, hl, hm, hH, hb => by
    have ht := hm t (List.mem_cons_self ..)
    refine ⟨hq t ht, fun p hp => ?_, trivial⟩
    rcases List.mem_append.mp hp with hp | hp
    · rcases hb t rfl p hp with rfl | h
      · unfold tn cr sub; grind
      · exact hH p hp h
    · rw [List.mem_singleton.mp hp]; unfold tn; rw [cr_self]; exact Rat.le_refl
  | s :: l, t, hc, hl, hm, hH, hb => by
    have ht := hm t (List.mem_cons_self ..)
    have hs := hm s (List.mem_cons_of_mem _ (List.mem_cons_self ..))
    have fts := hc.fw
    unfold pop
    split
    · rename_i hn
      refine pop_ok hq hc.tl hl.2 (fun p hp => hm p (List.mem_cons_of_mem _ hp)) (fun p hp fps => ?_) fun e he => hb e (by rw [List.getLast?_cons_cons]; exact he)
      have h1 : 0 ≤ cr (sub q s) (sub t s) := by rw [cr_anti]; unfold tn at hn; grind
      have h2 : 0 ≤ cr (sub t s) (sub p s) := hl.1 p hp
      exact tle (hq s hs) fts fps h1 h2
    · rename_i hn
      have hp0 : 0 < tn s t q := by grind
      have fqt := hq t ht
      have h0 : 0 < cr (sub t s) (sub q t) := by rwa [tn_eq] at hp0
      refine ⟨⟨fqt, hp0, hc⟩, ⟨fun p hp => ?_, lf_and hl (deep hc fqt fun s' hs' => by cases hs'; exact h0)⟩⟩
      rcases List.mem_append.mp hp with hp | hp
      · by_cases e : p = t
        · subst e; unfold tn cr sub; grind
        · rcases fw_tri (b := b) e with ft | ft
          · have h1 := hl.1 p hp
            have h2 : 0 ≤ cr (sub t p) (sub t s) := by
              have : cr (sub t p) (sub t s) = tn s t p := by unfold tn cr sub; grind
              rw [this]; exact h1
            have h3 := tlt2 ft fts fqt h2 h0
            have : tn t q p = cr (sub t p) (sub q t) := by unfold tn cr sub; grind
            rw [this]; exact Rat.le_of_lt h3
          · exact hH p hp ft
      · rw [List.mem_singleton.mp hp]; unfold tn; rw [cr_self]; exact Rat.le_refl
theorem pop_sub {q : Pt} : ∀ {l : List Pt}, ∀ p ∈ pop q l, p ∈ l
  | [], p, h => h
  | [t], p, h => h
  | t :: s :: r, p, h => by
    unfold pop at h
    split at h
    · exact List.mem_cons_of_mem _ (pop_sub p h)
    · exact h
theorem pop_last {q : Pt} : ∀ {l : List Pt}, (pop q l).getLast? = l.getLast?
  | [] => rfl
  | [t] => rfl
  | t :: s :: r => by
    unfold pop
    split
    · rw [pop_last, List.getLast?_cons_cons]
    · rfl
theorem pop_ne {q : Pt} : ∀ {t : Pt} {l : List Pt}, pop q (t :: l) ≠ []
  | t, [], h => by cases h
  | t, s :: r, h => by
    unfold pop at h
    split at h
    · exact pop_ne h
    · cases h
/-- what the stack keeps, top first, behind the spots Q -/
structure Stk (b : Bool) (Q st : List Pt) : Prop where
  cv : Cv b st
  lf : Lf Q st
  mem : ∀ p ∈ st, p ∈ Q
  top : st.head? = Q.getLast?
  bot : st.getLast? = Q.head?
theorem stk_step {b : Bool} {Q st : List Pt} {q : Pt} (S : Stk b Q st) (hQ : Q ≠ []) (hp : (Q ++ [q]).Pairwise fun a c => Fw b (sub c a)) : Stk b (Q ++ [q]) (q :: pop q st) := qt_of (by simp (disch := with_unfolding_all
  obtain ⟨p1, p2, p3⟩ := List.pairwise_append.mp hp
  have hq : ∀ p ∈ Q, Fw b (sub q p) := fun p h => p3 p h q (List.mem_singleton.mpr rfl)
  obtain ⟨Q0, e, rfl⟩ : ∃ Q0 e, Q = Q0 ++ [e] := ⟨Q.dropLast, Q.getLast hQ, (List.dropLast_concat_getLast hQ).symm⟩
  obtain ⟨f, F, ef⟩ : ∃ f F, Q0 ++ [e] = f :: F := List.exists_cons_of_ne_nil hQ
  match st, S with
  | [], S => 
    have := S.top
    rw [List.getLast?_concat] at this
    cases this
  | t :: l, S =>
    have et : t = e := by
      have := S.top
      rw [List.getLast?_concat] at this
      exact Option.some.inj this
    have k := pop_ok hq S.cv S.lf S.mem (fun p hp fp => ?_) (fun e' he p hp => ?_)
    · refine ⟨k.1, k.2, fun p hp => ?_, by rw [List.getLast?_concat]; rfl, ?_⟩
      · rcases List.mem_cons.mp hp with rfl | hp
        · simp
        · exact List.mem_append_left _ (S.mem p (pop_sub p hp))
      · obtain ⟨c, C, ec⟩ : ∃ c C, pop q (t :: l) = c :: C := List.exists_cons_of_ne_nil pop_ne
        have h1 := pop_last (q := q) (l := t :: l)
        rw [ec] at h1 ⊢
        rw [List.getLast?_cons_cons, h1, S.bot, ef]
        rfl
    · subst et
      exfalso
      rcases List.mem_append.mp hp with h | h
      · have := (List.pairwise_append.mp p1).2.2 p h t (List.mem_singleton.mpr rfl)
        cases b <;> simp only [Fw, sub, if_true, Bool.false_eq_true, if_false] at * <;> grind
      · rw [List.mem_singleton.mp h] at fp
        cases b <;> simp only [Fw, sub, if_true, Bool.false_eq_true, if_false] at * <;> grind
    · have := S.bot
      rw [he, ef] at this
      have e2 : e' = f := Option.some.inj this
      subst e2
      rw [ef] at hp p1
      rcases List.mem_cons.mp hp with rfl | h
      · exact .inl rfl
      · exact .inr ((List.pairwise_cons.mp p1).1 p h)
  ) only [↓qt_eq])
noncomputable def stack (P : List Pt) : List Pt := P.foldl (fun st q => q :: pop q st) []
theorem stk_fold {b : Bool} : ∀ {R Q st : List Pt}, Q ≠ [] → Stk b Q st → ((Q ++ R).Pairwise fun a c => Fw b (sub c a)) → Stk b (Q ++ R) (R.foldl (fun st q => q :: pop q st) st)
  | [], Q, st, _, S, _ => by rw [List.append_nil]; exact S
  | q :: R, Q, st, hQ, S, hp => by
    have e : Q ++ q :: R = (Q ++ [q]) ++ R := by simp
    rw [e] at hp ⊢
    exact stk_fold (R := R) (Q := Q ++ [q]) (by simp) (stk_step S hQ (List.pairwise_append.mp hp).1) hp
theorem stack_ok {b : Bool} {P : List Pt} (h : P ≠ []) (hp : P.Pairwise fun a c => Fw b (sub c a)) : Stk b P (stack P) := by
  match P, h, hp with
  | p :: R, _, hp =>
    have S : Stk b [p] [p] := ⟨trivial, trivial, fun x hx => hx, rfl, rfl⟩
    exact stk_fold (Q := [p]) (by simp) S hp
/-! ### edges -/
/-- v follows u in the list -/
noncomputable def Edge (l : List Pt) (u v : Pt) : Prop := ∃ A B, l = A ++ v :: u :: B
theorem lf_edge {P : List Pt} : ∀ {l : List Pt} {u v : Pt}, Lf P l → Edge l u v → ∀ p ∈ P, 0 ≤ tn u v p
  | [], u, v, _, ⟨A, B, e⟩, p, hp => by simp at e
  | [t], u, v, _, ⟨A, B, e⟩, p, hp => by
    cases A with
    | nil => cases e
    | cons a A => simp at e
  | t :: s :: l, u, v, h, ⟨A, B, e⟩, p, hp => by
    cases A with
    | nil =>
      injection e with e1 e2
      injection e2 with e2 e3
      subst e1; subst e2
      exact h.1 p hp
    | cons a A =>
      injection e with e1 e2
      exact lf_edge h.2 ⟨A, B, e2⟩ p hp
theorem cv_edge {b : Bool} : ∀ {l : List Pt} {u v : Pt}, Cv b l → Edge l u v → Fw b (sub v u)
  | [], u, v, _, ⟨A, B, e⟩ => by simp at e
  | t :: l, u, v, h, ⟨A, B, e⟩ => by
    cases A with
    | nil =>
      injection e with e1 e2
      subst e1; subst e2
      exact h.fw
    | cons a A =>
      injection e with e1 e2
      exact cv_edge h.tl ⟨A, B, e2⟩
theorem cv_turn {b : Bool} : ∀ {l : List Pt} {u v w : Pt} {A B : List Pt}, Cv b l → l = A ++ w :: v :: u :: B → 0 < tn u v w
  | [], u, v, w, A, B, _, e => by simp at e
  | t :: l, u, v, w, A, B, h, e => by
    cases A with
    | nil =>
      injection e with e1 e2
      subst e1; subst e2
      exact h.2.1
    | cons a A =>
      injection e with e1 e2
      exact cv_turn h.tl e2
end U.Hull

end
section
namespace U.Hull
/-- q lies between h and r -/
noncomputable def Btw (h r q : Pt) : Prop := (q.x - h.x) * (q.x - r.x) ≤ 0 ∧ (q.y - h.y) * (q.y - r.y) ≤ 0 ∧ tn h r q = 0
theorem mul_eq0 {a b : Rat} (h : a * b = 0) (ha : a ≠ 0) : b = 0 := by
  rcases Rat.mul_eq_zero.mp h with h | h
  · exact absurd h ha
  · exact h
theorem pt_ext {p q : Pt} (h1 : p.x = q.x) (h2 : p.y = q.y) : p = q := by cases p; cases q; cases h1; cases h2; rfl
theorem btw_fw0 {h r q : Pt} (hb : Btw h r q) (hr : r ≠ q) (f : Fw false (sub q h)) : Fw false (sub r q) ∧ cr (sub q h) (sub r q) = 0 := qt_of (by simp (disch := with_unfolding_all
  obtain ⟨b1, b2, b3⟩ := hb
  have e : cr (sub q h) (sub r q) = 0 := by unfold tn cr sub at *; grind
  refine ⟨?_, e⟩
  simp only [Fw, sub, Bool.false_eq_true, if_false] at f ⊢
  unfold cr sub at e
  simp only at e
  generalize hu : q.x - h.x = ux at *
  generalize hv : q.y - h.y = uy at *
  have ev : q.x - r.x = -(r.x - q.x) := by grind
  have ew : q.y - r.y = -(r.y - q.y) := by grind
  rw [ev] at b1
  rw [ew] at b2
  have hne : r.x - q.x ≠ 0 ∨ r.y - q.y ≠ 0 := by
    apply Classical.byContradiction
    intro hn
    exact hr (pt_ext (by grind) (by grind))
  generalize r.x - q.x = vx at *
  generalize r.y - q.y = vy at *
  rcases f with f | ⟨f1, f2⟩
  · have h1 : 0 ≤ vx := by
      apply Classical.byContradiction
      intro hn
      have := mul_pp f (show 0 < -vx by grind)
      grind
    by_cases h2 : vx = 0
    · exfalso
      subst h2
      have : vy = 0 := mul_eq0 (a := ux) (by grind) (by grind)
      grind
    · left; grind
  · subst f1
    have h1 : vx = 0 := mul_eq0 (a := uy) (by grind) (by grind)
    subst h1
    right
    refine ⟨rfl, ?_⟩
    apply Classical.byContradiction
    intro hn
    have : vy ≠ 0 := by grind
    have := mul_pp f2 (show 0 < -vy by grind)
    grind
  ) only [↓qt_eq])
theorem btw_neg {h r q : Pt} (hb : Btw h r q) : Btw (neg h) (neg r) (neg q) := by
  obtain ⟨b1, b2, b3⟩ := hb
  unfold tn cr sub at b3
  refine ⟨?_, ?_, ?_⟩
  · unfold neg; grind
  · unfold neg; grind
  · unfold tn cr sub neg; grind
theorem sub_neg (a c : Pt) : sub (neg a) (neg c) = neg (sub a c) := by unfold sub neg; exact pt_ext (by grind) (by grind)
theorem neg_inj {a c : Pt} (h : neg a = neg c) : a = c := by
  unfold neg at h
  injection h with h1 h2
  exact pt_ext (by grind) (by grind)
theorem btw_fw {b : Bool} {h r q : Pt} (hb : Btw h r q) (hr : r ≠ q) (f : Fw b (sub q h)) : Fw b (sub r q) ∧ cr (sub q h) (sub r q) = 0 := qt_of (by simp (disch := with_unfolding_all
  cases b with
  | false => exact btw_fw0 hb hr f
  | true =>
    have := btw_fw0 (btw_neg hb) (fun z => hr (neg_inj z)) (by rw [sub_neg]; exact fw_neg.mp f)
    rw [sub_neg, sub_neg, cr_neg] at this
    exact ⟨fw_neg.mpr this.1, this.2⟩
  ) only [↓qt_eq])
theorem fw_no {b : Bool} {a c : Pt} (h1 : Fw b (sub a c)) (h2 : Fw b (sub c a)) : False := by
  cases b <;> simp only [Fw, sub, if_true, Bool.false_eq_true, if_false] at * <;> grind
theorem fw_ne {b : Bool} {a c : Pt} (h1 : Fw b (sub a c)) : a ≠ c := fun e => by subst e; exact fw_no h1 h1
/-- q follows h round the spots P -/
noncomputable def Nx (P : List Pt) (h q : Pt) : Prop := q ∈ P ∧ q ≠ h ∧ (∀ r ∈ P, 0 ≤ tn h q r) ∧ ∀ r ∈ P, r ≠ q → ¬ Btw h r q
theorem last_max {b : Bool} {P : List Pt} (hp : P.Pairwise fun a c => Fw b (sub c a)) {v : Pt} (hv : P.getLast? = some v) : ∀ p ∈ P, p = v ∨ Fw b (sub v p) := qt_of (by simp (disch := with_unfolding_all
  have hn : P ≠ [] := fun e => by subst e; cases hv
  obtain ⟨Q, e, rfl⟩ : ∃ Q e, P = Q ++ [e] := ⟨P.dropLast, P.getLast hn, (List.dropLast_concat_getLast hn).symm⟩
  rw [List.getLast?_concat] at hv
  cases hv
  intro p h
  rcases List.mem_append.mp h with h | h
  · exact .inr ((List.pairwise_append.mp hp).2.2 p h v (List.mem_singleton.mpr rfl))
  · exact .inl (List.mem_singleton.mp h)
  ) only [↓qt_eq])
theorem edge_nx {b : Bool} {P st : List Pt} (S : Stk b P st) (hp : P.Pairwise fun a c => Fw b (sub c a)) {u v : Pt} (he : Edge st u v) : Nx P u v := qt_of (by simp (disch := with_unfolding_all
  have fvu := cv_edge S.cv he
  obtain ⟨A, B, e⟩ := id he
  have mv : v ∈ P := S.mem v (by rw [e]; simp)
  refine ⟨mv, fw_ne fvu, lf_edge S.lf he, fun r hr hne hb => ?_⟩
  obtain ⟨f, c0⟩ := btw_fw hb hne fvu
  by_cases hA : A = []
  · subst hA
    have ht := S.top
    rw [e] at ht
    rcases last_max hp ht.symm r hr with h | h
    · exact hne h
    · exact fw_no f h
  · obtain ⟨A', w, rfl⟩ : ∃ A' w, A = A' ++ [w] := ⟨A.dropLast, A.getLast hA, (List.dropLast_concat_getLast hA).symm⟩
    have e' : st = A' ++ w :: v :: (u :: B) := by rw [e]; simp
    have h1 := cv_turn S.cv e'
    have ew : Edge st v w := ⟨A', u :: B, e'⟩
    have h2 := lf_edge S.lf ew r hr
    have fwv := cv_edge S.cv ew
    rw [tn_eq] at h1
    have h3 := tlt1 fvu fwv f h1 h2
    grind
  ) only [↓qt_eq])
theorem same0 {h q r : Pt} (f1 : Fw false (sub q h)) (f2 : Fw false (sub r q)) (c : cr (sub q h) (sub r q) = 0) : Btw h r q := by
  refine ⟨?_, ?_, by unfold tn cr sub at *; grind⟩
  all_goals
    simp only [Fw, sub, Bool.false_eq_true, if_false] at f1 f2
    unfold cr sub at c
    simp only at c
    have ev : q.x - r.x = -(r.x - q.x) := by grind
    have ew : q.y - r.y = -(r.y - q.y) := by grind
    first | rw [ev] | rw [ew]
    generalize q.x - h.x = ux at *
    generalize q.y - h.y = uy at *
    generalize r.x - q.x = vx at *
    generalize r.y - q.y = vy at *
  · have := mul_nn (show 0 ≤ ux by grind) (show 0 ≤ vx by grind)
    grind
  · apply Classical.byContradiction
    intro hn
    have hn : uy * vy < 0 := by grind
    rcases f1 with f1 | ⟨f1, f1'⟩
    · have k : uy * vy * ux = uy * uy * vx := by grind
      have : 0 ≤ uy * uy := by
        rcases (Rat.le_total : 0 ≤ uy ∨ uy ≤ 0) with z | z
        · exact mul_nn z z
        · have := mul_nn (show 0 ≤ -uy by grind) (show 0 ≤ -uy by grind)
          grind
      have := mul_nn this (show 0 ≤ vx by grind)
      have := mul_pp (show 0 < -(uy * vy) by grind) f1
      grind
    · subst f1
      have h1 : vx = 0 := mul_eq0 (a := uy) (by grind) (by grind)
      subst h1
      have := mul_pp f1' (show 0 < vy by grind)
      grind
theorem same {b : Bool} {h q r : Pt} (f1 : Fw b (sub q h)) (f2 : Fw b (sub r q)) (c : cr (sub q h) (sub r q) = 0) : Btw h r q := qt_of (by simp (disch := with_unfolding_all
  cases b with
  | false => exact same0 f1 f2 c
  | true =>
    have := same0 (h := neg h) (q := neg q) (r := neg r) (by rw [sub_neg]; exact fw_neg.mp f1) (by rw [sub_neg]; exact fw_neg.mp f2) (by rw [sub_neg, sub_neg, cr_neg]; exact c)
    have k := btw_neg this
    have nn : ∀ p : Pt, neg (neg p) = p := fun p => pt_ext (by unfold neg; grind) (by unfold neg; grind)
    rwa [nn, nn, nn] at k
  ) only [↓qt_eq])
theorem nx_uniq {b : Bool} {P st : List Pt} (S : Stk b P st) (hp : P.Pairwise fun a c => Fw b (sub c a)) {u v q : Pt} (he : Edge st u v) (hq : Nx P u q) : q = v := qt_of (by simp (disch := with_unfolding_all
  apply Classical.byContradiction
  intro hne
  have hv := edge_nx S hp he
  have fvu := cv_edge S.cv he
  have par : cr (sub v u) (sub q u) = 0 := by
    have h1 : 0 ≤ cr (sub v u) (sub q u) := hv.2.2.1 q hq.1
    have h2 : 0 ≤ cr (sub q u) (sub v u) := hq.2.2.1 v hv.1
    rw [cr_anti] at h2
    grind
  rcases fw_tri (b := b) hq.2.1 with f | f
  · -- the other side
    obtain ⟨A, B, e⟩ := id he
    cases B with
    | nil =>
      have hb := S.bot
      rw [e] at hb
      have hu : P.head? = some u := by rw [← hb]; simp
      match P, hu, hp, hq with
      | p :: P', hu, hp, hq =>
        cases hu
        rcases List.mem_cons.mp hq.1 with h | h
        · exact hq.2.1 h
        · exact fw_no f ((List.pairwise_cons.mp hp).1 q h)
    | cons t B =>
      have et : Edge st t u := ⟨A ++ [v], B, by rw [e]; simp⟩
      have e3 : st = A ++ v :: u :: t :: B := e
      have h1 := cv_turn S.cv e3
      rw [tn_eq] at h1
      have fut := cv_edge S.cv et
      have mt : t ∈ P := S.mem t (by rw [e]; simp)
      have h2 := hq.2.2.1 t mt
      have h3 : 0 ≤ cr (sub u q) (sub u t) := by
        have : cr (sub u q) (sub u t) = tn u q t := by unfold tn cr sub; grind
        rw [this]; exact h2
      have h4 : 0 ≤ cr (sub v u) (sub u q) := by
        have : cr (sub v u) (sub u q) = - cr (sub v u) (sub q u) := by unfold cr sub; grind
        rw [this, par]; grind
      have h5 := tlt1 fut fvu f h1 h4
      have h6 := tlt1 fut f fut h5 h3
      rw [cr_self] at h6
      grind
  · rcases fw_tri (b := b) hne with g | g
    · refine hq.2.2.2 v hv.1 (fun z => hne z.symm) (same f g ?_)
      unfold cr sub at *; grind
    · refine hv.2.2.2 q hq.1 hne (same fvu g ?_)
      unfold cr sub at *; grind
  ) only [↓qt_eq])
end U.Hull

end
section
namespace U.Hull
/-- a spot within both sides: none -/
theorem apart {P R stL stU : List Pt} (SL : Stk false P stL) (SU : Stk true R stU) (hR : ∀ p, p ∈ R ↔ p ∈ P) {a p b u w : Pt} (e1 : Edge stL a p) (e2 : Edge stL p b) (e3 : Edge stU u p) (e4 : Edge stU p w) (t1 : 0 < tn a p b) (t2 : 0 < tn u p w) : False := by
  have fa := cv_edge SL.cv e1
  have fb := cv_edge SL.cv e2
  have fu := fw_neg.mp (cv_edge SU.cv e3)
  have fw := fw_neg.mp (cv_edge SU.cv e4)
  have mem1 : ∀ {x y : Pt}, Edge stL x y → x ∈ P ∧ y ∈ P := fun {x y} ⟨A, B, e⟩ => ⟨SL.mem _ (by rw [e]; simp), SL.mem _ (by rw [e]; simp)⟩
  have mem2 : ∀ {x y : Pt}, Edge stU x y → x ∈ P ∧ y ∈ P := fun {x y} ⟨A, B, e⟩ => ⟨(hR _).mp (SU.mem _ (by rw [e]; simp)), (hR _).mp (SU.mem _ (by rw [e]; simp))⟩
  -- a' = p - a, b' = b - p, u' = u - p, w' = p - w, all onward
  have h1 : 0 ≤ tn a p w := lf_edge SL.lf e1 w (mem2 e4).2
  have h2 : 0 ≤ tn u p b := lf_edge SU.lf e3 b ((hR _).mpr (mem1 e2).2)
  have k1 : 0 ≤ cr (neg (sub w p)) (sub p a) := by
    have : cr (neg (sub w p)) (sub p a) = tn a p w := by unfold tn cr sub neg; grind
    rw [this]; exact h1
  have k2 : 0 ≤ cr (sub b p) (neg (sub p u)) := by
    have : cr (sub b p) (neg (sub p u)) = tn u p b := by unfold tn cr sub neg; grind
    rw [this]; exact h2
  have k3 : 0 < cr (sub p a) (sub b p) := by rwa [tn_eq] at t1
  have k4 : 0 < cr (neg (sub p u)) (neg (sub w p)) := by rw [cr_neg]; rwa [tn_eq] at t2
  have m1 := tlt1 fa fb fu k3 k2
  have m2 := tlt1 fa fu fw m1 (Rat.le_of_lt k4)
  have m3 := tlt1 fa fw fa m2 k1
  rw [cr_self] at m3
  grind
theorem cv_pw {b : Bool} : ∀ {st : List Pt}, Cv b st → st.Pairwise fun t s => Fw b (sub t s)
  | [], _ => .nil
  | [t], _ => List.pairwise_singleton _ _
  | t :: s :: l, h => by
    have ih := cv_pw h.tl
    refine List.pairwise_cons.mpr ⟨fun x hx => ?_, ih⟩
    rcases List.mem_cons.mp hx with rfl | hx
    · exact h.fw
    · exact fw_add ((List.pairwise_cons.mp ih).1 x hx) h.fw
theorem cv_nodup {b : Bool} {st : List Pt} (h : Cv b st) : st.Nodup := (cv_pw h).imp fun f => fw_ne f
theorem inside {st : List Pt} {x : Pt} (hx : x ∈ st) (h1 : st.head? ≠ some x) (h2 : st.getLast? ≠ some x) : ∃ A B a b, st = A ++ b :: x :: a :: B := by
  obtain ⟨A0, B0, rfl⟩ := List.append_of_mem hx
  have hA : A0 ≠ [] := fun e => by subst e; exact h1 rfl
  have hB : B0 ≠ [] := fun e => by subst e; exact h2 (by simp)
  obtain ⟨A, b, rfl⟩ : ∃ A b, A0 = A ++ [b] := ⟨A0.dropLast, A0.getLast hA, (List.dropLast_concat_getLast hA).symm⟩
  obtain ⟨a, B, rfl⟩ := List.exists_cons_of_ne_nil hB
  exact ⟨A, B, a, b, by simp⟩
/-- the corners round: below without its last, above without its last -/
noncomputable def ring (row : List Pt) : List Pt := (stack row).tail.reverse ++ (stack row.reverse).tail.reverse
theorem rev_pw {row : List Pt} (h : row.Pairwise fun a c => Fw false (sub c a)) : row.reverse.Pairwise fun a c => Fw true (sub c a) := by
  rw [List.pairwise_reverse]
  refine h.imp fun {a c} f => ?_
  simp only [Fw, sub, if_true, Bool.false_eq_true, if_false] at *
  grind
theorem tail_ne {st : List Pt} (h : st.Nodup) {x : Pt} (hx : x ∈ st.tail) : st.head? ≠ some x := fun e => by
  match st, h, hx, e with
  | t :: l, h, hx, e =>
    cases e
    exact (List.nodup_cons.mp h).1 hx
theorem nd_rev {l : List Pt} (h : l.Nodup) : l.reverse.Nodup := (List.reverse_perm l).nodup_iff.mpr h
theorem ring_nodup {row : List Pt} (hn : row ≠ []) (h : row.Pairwise fun a c => Fw false (sub c a)) : (ring row).Nodup := by
  have SL := stack_ok hn h
  have SU := stack_ok (b := true) (P := row.reverse) (by simpa using hn) (rev_pw h)
  have nL := cv_nodup SL.cv
  have nU := cv_nodup SU.cv
  unfold ring
  rw [List.nodup_append]
  refine ⟨nd_rev (nL.sublist (List.tail_sublist _)), nd_rev (nU.sublist (List.tail_sublist _)), fun x hx y hy e => ?_⟩
  subst e
  have hx := List.mem_reverse.mp hx
  have hy := List.mem_reverse.mp hy
  have tL := tail_ne nL hx
  have tU := tail_ne nU hy
  have bL : (stack row).getLast? ≠ some x := fun e => tU (by rw [SU.top, List.getLast?_reverse, ← SL.bot]; exact e)
  have bU : (stack row.reverse).getLast? ≠ some x := fun e => tL (by rw [SL.top, ← List.head?_reverse, ← SU.bot]; exact e)
  obtain ⟨A, B, a, b, e1⟩ := inside (List.mem_of_mem_tail hx) tL bL
  obtain ⟨C, D, u, w, e2⟩ := inside (List.mem_of_mem_tail hy) tU bU
  exact apart SL SU (fun p => List.mem_reverse) ⟨A ++ [b], B, by rw [e1]; simp⟩ ⟨A, a :: B, e1⟩ ⟨C ++ [w], D, by rw [e2]; simp⟩ ⟨C, u :: D, e2⟩ (cv_turn SL.cv e1) (cv_turn SU.cv e2)
theorem edge_of {l : List Pt} {i : Nat} {u v : Pt} (h1 : l.reverse[i]? = some u) (h2 : l.reverse[i + 1]? = some v) : Edge l u v := by
  have hl : i + 1 < l.reverse.length := (List.getElem?_eq_some_iff.mp h2).1
  have e1 : l.reverse[i] = u := (List.getElem?_eq_some_iff.mp h1).2
  have e2 : l.reverse[i + 1] = v := (List.getElem?_eq_some_iff.mp h2).2
  have e : l.reverse = l.reverse.take i ++ u :: v :: l.reverse.drop (i + 2) := by
    conv => lhs; rw [← List.take_append_drop i l.reverse]
    rw [List.drop_eq_getElem_cons (by omega), List.drop_eq_getElem_cons hl, e1, e2]
  refine ⟨(l.reverse.drop (i + 2)).reverse, (l.reverse.take i).reverse, ?_⟩
  have := congrArg List.reverse e
  rw [List.reverse_reverse] at this
  refine this.trans ?_
  simp
theorem rev_tail {st : List Pt} : st.tail.reverse = st.reverse.dropLast := by
  cases st with
  | nil => rfl
  | cons t l => rw [List.reverse_cons, List.dropLast_concat]; rfl
theorem two_rings {X Y : List Pt} (hX : 2 ≤ X.length) (hY : 2 ≤ Y.length) (h1 : X.getLast? = Y.head?) (h2 : Y.getLast? = X.head?) {i : Nat} {c : Pt} (hi : (X.dropLast ++ Y.dropLast)[i]? = some c) :
    ∃ v, (X.dropLast ++ Y.dropLast)[(i + 1) % (X.dropLast ++ Y.dropLast).length]? = some v ∧ ((∃ k, X[k]? = some c ∧ X[k + 1]? = some v) ∨ ∃ k, Y[k]? = some c ∧ Y[k + 1]? = some v) := by
  have hlen : (X.dropLast ++ Y.dropLast).length = (X.length - 1) + (Y.length - 1) := by simp
  have hi' : i < (X.length - 1) + (Y.length - 1) := by rw [← hlen]; exact (List.getElem?_eq_some_iff.mp hi).1
  rw [hlen]
  have lX : X.dropLast.length = X.length - 1 := List.length_dropLast
  have lY : Y.dropLast.length = Y.length - 1 := List.length_dropLast
  have g : ∀ j, j < X.length - 1 → (X.dropLast ++ Y.dropLast)[j]? = X[j]? := fun j hj => by
    rw [List.getElem?_append_left (by omega), List.getElem?_dropLast, if_pos hj]
  have g' : ∀ j, j < Y.length - 1 → (X.dropLast ++ Y.dropLast)[X.length - 1 + j]? = Y[j]? := fun j hj => by
    rw [List.getElem?_append_right (by omega), List.getElem?_dropLast, lX, if_pos (by omega)]
    congr 1
    omega
  have hX0 : X[X.length - 1]? = Y[0]? := by rw [← List.getLast?_eq_getElem?, h1, List.head?_eq_getElem?]
  have hY0 : Y[Y.length - 1]? = X[0]? := by rw [← List.getLast?_eq_getElem?, h2, List.head?_eq_getElem?]
  by_cases hk : i < X.length - 1
  · rw [g i hk] at hi
    rw [Nat.mod_eq_of_lt (by omega)]
    refine ⟨X[i + 1], ?_, .inl ⟨i, hi, List.getElem?_eq_getElem (by omega)⟩⟩
    by_cases hk' : i + 1 < X.length - 1
    · rw [g _ hk']; exact List.getElem?_eq_getElem (by omega)
    · have e : (X.dropLast ++ Y.dropLast)[i + 1]? = X[i + 1]? := by
        have e1 : i + 1 = X.length - 1 + 0 := by omega
        have e2 : X.length - 1 = i + 1 := by omega
        have k := g' 0 (by omega)
        rw [← e1, ← hX0, e2] at k
        exact k
      rw [e]
      exact List.getElem?_eq_getElem (by omega)
  · obtain ⟨j, rfl⟩ : ∃ j, i = X.length - 1 + j := ⟨i - (X.length - 1), by omega⟩
    rw [g' j (by omega)] at hi
    refine ⟨Y[j + 1], ?_, .inr ⟨j, hi, List.getElem?_eq_getElem (by omega)⟩⟩
    by_cases hk' : j + 1 < Y.length - 1
    · rw [Nat.mod_eq_of_lt (by omega)]
      have e : X.length - 1 + j + 1 = X.length - 1 + (j + 1) := by omega
      rw [e, g' _ hk']; exact List.getElem?_eq_getElem (by omega)
    · have e : (X.length - 1 + j + 1) % (X.length - 1 + (Y.length - 1)) = 0 := by
        have e1 : X.length - 1 + j + 1 = X.length - 1 + (Y.length - 1) := by omega
        rw [e1, Nat.mod_self]
      have e2 : Y.length - 1 = j + 1 := by omega
      have k : (X.dropLast ++ Y.dropLast)[0]? = Y[j + 1]? := by rw [g 0 (by omega), ← hY0, e2]
      rw [e, k]
      exact List.getElem?_eq_getElem (by omega)
theorem stk_two {b : Bool} {P st : List Pt} (S : Stk b P st) (hl : 2 ≤ P.length) (hp : P.Pairwise fun a c => Fw b (sub c a)) : 2 ≤ st.length := by
  match st, S with
  | [], S =>
    have := S.bot
    cases P with
    | nil => simp at hl
    | cons p P => cases this
  | [t], S =>
    exfalso
    have h1 := S.top
    have h2 := S.bot
    match P, hl, hp, h1, h2 with
    | p :: q :: R, _, hp, h1, h2 =>
      have e : t = p := Option.some.inj h2
      rw [List.getLast?_cons_cons] at h1
      have m : t ∈ q :: R := List.mem_of_getLast? h1.symm
      exact fw_ne ((List.pairwise_cons.mp hp).1 t m) e
  | _ :: _ :: _, _ => simp
/-- each corner's edge leads to the next one -/
theorem ring_next {row : List Pt} (hl : 2 ≤ row.length) (h : row.Pairwise fun a c => Fw false (sub c a)) {i : Nat} {c : Pt} (hi : (ring row)[i]? = some c) : ∃ v, (ring row)[(i + 1) % (ring row).length]? = some v ∧ (Edge (stack row) c v ∨ Edge (stack row.reverse) c v) := by
  have hn : row ≠ [] := fun e => by subst e; simp at hl
  have SL := stack_ok hn h
  have SU := stack_ok (b := true) (P := row.reverse) (by simpa using hn) (rev_pw h)
  have l1 := stk_two SL hl h
  have l2 := stk_two SU (by simpa using hl) (rev_pw h)
  unfold ring at hi ⊢
  rw [rev_tail, rev_tail] at hi ⊢
  obtain ⟨v, hv, k⟩ := two_rings (X := (stack row).reverse) (Y := (stack row.reverse).reverse) (by simpa using l1) (by simpa using l2) (by rw [List.getLast?_reverse, List.head?_reverse, SL.top, SU.bot, List.head?_reverse]) (by rw [List.getLast?_reverse, List.head?_reverse, SU.top, SL.bot, List.getLast?_reverse]) hi
  exact ⟨v, hv, k.imp (fun ⟨k, a, b⟩ => edge_of a b) fun ⟨k, a, b⟩ => edge_of a b⟩
end U.Hull

end
section
/-! Corners round, of spots. -/
namespace U.Hull
open U
noncomputable def pt : Spot → Pt
  | [a, b] => ⟨val a, val b⟩
  | [a] => ⟨val a, 0⟩
  | _ => ⟨0, 0⟩
noncomputable def popS (q : Spot) : List Spot → List Spot
  | t :: s :: r => if tn (pt s) (pt t) (pt q) ≤ 0 then popS q (s :: r) else t :: s :: r
  | l => l
noncomputable def stackS (row : List Spot) : List Spot := row.foldl (fun st q => q :: popS q st) []
theorem pop_map (q : Spot) : ∀ l : List Spot, (popS q l).map pt = pop (pt q) (l.map pt)
  | [] => rfl
  | [t] => rfl
  | t :: s :: r => by
    unfold popS
    show _ = pop (pt q) (pt t :: pt s :: r.map pt)
    unfold pop
    split
    · exact pop_map q (s :: r)
    · rfl
theorem stack_map (row : List Spot) : (stackS row).map pt = stack (row.map pt) := by
  have key : ∀ (row st : List Spot), (row.foldl (fun st q => q :: popS q st) st).map pt = (row.map pt).foldl (fun st q => q :: pop q st) (st.map pt) := fun row => by
    induction row with
    | nil => intro st; rfl
    | cons q row ih =>
      intro st
      rw [List.foldl_cons, ih, List.map_cons, List.map_cons, List.foldl_cons, pop_map]
  exact key row []
noncomputable def ringS (row : List Spot) : List Spot := (stackS row).tail.reverse ++ (stackS row.reverse).tail.reverse
theorem ring_map (row : List Spot) : (ringS row).map pt = ring (row.map pt) := by
  unfold ringS ring
  rw [List.map_append, List.map_reverse, List.map_reverse, List.map_tail, List.map_tail, stack_map, stack_map, List.map_reverse]
theorem popS_sub {q : Spot} : ∀ {l : List Spot}, ∀ p ∈ popS q l, p ∈ l
  | [], p, h => h
  | [t], p, h => h
  | t :: s :: r, p, h => by
    unfold popS at h
    split at h
    · exact List.mem_cons_of_mem _ (popS_sub p h)
    · exact h
theorem stackS_sub {row : List Spot} : ∀ p ∈ stackS row, p ∈ row := qt_of (by simp (disch := with_unfolding_all
  have key : ∀ (row st : List Spot), ∀ p ∈ row.foldl (fun st q => q :: popS q st) st, p ∈ row ∨ p ∈ st := fun row => by
    induction row with
    | nil => intro st p h; exact .inr h
    | cons q row ih =>
      intro st p h
      rcases ih _ p h with h | h
      · exact .inl (List.mem_cons_of_mem _ h)
      · rcases List.mem_cons.mp h with rfl | h
        · exact .inl (List.mem_cons_self ..)
        · exact .inr (popS_sub p h)
  intro p h
  exact (key row [] p h).resolve_right (by simp)
  ) only [↓qt_eq])
/-- spots of one room -/
structure Rm (r : Nat) (s : Spot) : Prop where
  gd : ∃ a, ∀ f ∈ s, Gd a f
  len : s.length = r
theorem pt_inj {r : Nat} {s t : Spot} (hr : r = 1 ∨ r = 2) (hs : Rm r s) (ht : Rm r t) (h : pt s = pt t) : s = t := qt_of (by simp (disch := with_unfolding_all
  obtain ⟨⟨a, ga⟩, la⟩ := hs
  obtain ⟨⟨b, gb⟩, lb⟩ := ht
  rcases hr with rfl | rfl
  · match s, t, la, lb with
    | [x], [y], _, _ =>
      unfold pt at h
      injection h with h1 h2
      rw [gd_inj (ga x (by simp)) (gb y (by simp)) h1]
  · match s, t, la, lb with
    | [x, x'], [y, y'], _, _ =>
      unfold pt at h
      injection h with h1 h2
      rw [gd_inj (ga x (by simp)) (gb y (by simp)) h1, gd_inj (ga x' (by simp)) (gb y' (by simp)) h2]
  ) only [↓qt_eq])
theorem slt_fw {r : Nat} {s t : Spot} (hr : r = 1 ∨ r = 2) (hs : s.length = r) (ht : t.length = r) : sLt s t ↔ Fw false (sub (pt t) (pt s)) := qt_of (by simp (disch := with_unfolding_all
  rcases hr with rfl | rfl
  · match s, t, hs, ht with
    | [x], [y], _, _ =>
      simp only [sLt, Fw, sub, pt, Bool.false_eq_true, if_false]
      grind
  · match s, t, hs, ht with
    | [x, x'], [y, y'], _, _ =>
      simp only [sLt, Fw, sub, pt, Bool.false_eq_true, if_false]
      grind
  ) only [↓qt_eq])
end U.Hull

end
section
/-! The body of spots in order. -/
namespace U.Hull
open U
structure RowOk (r : Nat) (row : List Spot) : Prop where
  hr : r = 1 ∨ r = 2
  rm : ∀ s ∈ row, Rm r s
  pw : row.Pairwise sLt
  ne : row ≠ []
theorem RowOk.fw {r : Nat} {row : List Spot} (h : RowOk r row) : (row.map pt).Pairwise fun a c => Fw false (sub c a) := by
  rw [List.pairwise_map]
  exact h.pw.imp_of_mem fun {a b} ma mb hab => (slt_fw h.hr (h.rm a ma).len (h.rm b mb).len).mp hab
theorem RowOk.inj {r : Nat} {row : List Spot} (h : RowOk r row) {s t : Spot} (hs : s ∈ row) (ht : t ∈ row) (e : pt s = pt t) : s = t := pt_inj h.hr (h.rm s hs) (h.rm t ht) e
noncomputable def bodyS (row : List Spot) : List Spot := if row.length = 1 then row else ringS row
theorem nx_perm {P R : List Pt} (h : ∀ p, p ∈ P ↔ p ∈ R) {u v : Pt} (n : Nx P u v) : Nx R u v := ⟨(h v).mp n.1, n.2.1, fun r hr => n.2.2.1 r ((h r).mpr hr), fun r hr => n.2.2.2 r ((h r).mpr hr)⟩
theorem ringS_sub {row : List Spot} : ∀ s ∈ ringS row, s ∈ row := fun s hs => by
  unfold ringS at hs
  rcases List.mem_append.mp hs with h | h
  · exact stackS_sub s (List.mem_of_mem_tail (List.mem_reverse.mp h))
  · exact List.mem_reverse.mp (stackS_sub s (List.mem_of_mem_tail (List.mem_reverse.mp h)))
theorem ring_head {row : List Pt} (hl : 2 ≤ row.length) (h : row.Pairwise fun a c => Fw false (sub c a)) : (ring row).head? = row.head? := qt_of (by simp (disch := with_unfolding_all
  have hn : row ≠ [] := by intro e; rw [e] at hl; simp at hl
  have S := stack_ok hn h
  have l2 := stk_two S hl h
  unfold ring
  rw [rev_tail]
  have hb := S.bot
  rw [← hb]
  match hs : (stack row).reverse with
  | [] => rw [List.reverse_eq_nil_iff] at hs; rw [hs] at l2; simp at l2
  | [a] =>
    have : (stack row).length = 1 := by rw [← List.length_reverse, hs]; rfl
    omega
  | a :: b :: l =>
    rw [← List.head?_reverse, hs]
    rfl
  ) only [↓qt_eq])
structure BodyOk (row bs : List Spot) : Prop where
  nd : bs.Nodup
  sub : ∀ s ∈ bs, s ∈ row
  hd : bs.head? = row.head?
  nx : ∀ (i : Nat) (c : Spot), bs[i]? = some c → ∃ v, bs[(i + 1) % bs.length]? = some v ∧ ((row = [c] ∧ v = c) ∨ (Nx (row.map pt) (pt c) (pt v) ∧ ∀ q, Nx (row.map pt) (pt c) q → q = pt v))
theorem map_nodup_of {α β : Type} {f : α → β} {l : List α} (h : (l.map f).Nodup) : l.Nodup := by
  unfold List.Nodup at *
  rw [List.pairwise_map] at h
  exact h.imp fun hab e => hab (by rw [e])
theorem body_ok {r : Nat} {row : List Spot} (R : RowOk r row) : BodyOk row (bodyS row) := qt_of (by simp (disch := with_unfolding_all
  unfold bodyS
  split
  · rename_i h1
    match row, h1 with
    | [s], _ =>
      refine ⟨by simp, fun s hs => hs, rfl, fun i c hi => ⟨c, ?_, .inl ⟨?_, rfl⟩⟩⟩
      · cases i with
        | zero => simpa using hi
        | succ i => simp at hi
      · cases i with
        | zero => simp at hi; rw [hi]
        | succ i => simp at hi
  · rename_i h1
    have hn : row.map pt ≠ [] := by simpa using R.ne
    have hl : 2 ≤ (row.map pt).length := by
      have := List.length_pos_iff.mpr R.ne
      rw [List.length_map]; omega
    have hf := R.fw
    have hfr := rev_pw hf
    have hnr : (row.map pt).reverse ≠ [] := by simpa using hn
    have SL := stack_ok hn hf
    have SU := stack_ok hnr hfr
    have em := ring_map row
    refine ⟨map_nodup_of (f := pt) (by rw [em]; exact ring_nodup hn hf), ringS_sub, ?_, fun i c hi => ?_⟩
    · have h2 := ring_head hl hf
      rw [← em, List.head?_map, List.head?_map] at h2
      match h3 : (ringS row).head?, h4 : row.head? with
      | some a, some b =>
        rw [h3, h4] at h2
        have ma : a ∈ row := ringS_sub a (List.mem_of_mem_head? h3)
        have mb : b ∈ row := List.mem_of_mem_head? h4
        rw [R.inj ma mb (Option.some.inj h2)]
      | none, none => rfl
      | some a, none => rw [h3, h4] at h2; cases h2
      | none, some b => rw [h3, h4] at h2; cases h2
    · have hi' : (ring (row.map pt))[i]? = some (pt c) := by rw [← em, List.getElem?_map, hi]; rfl
      obtain ⟨v, hv, he⟩ := ring_next hl hf hi'
      have el : (ring (row.map pt)).length = (ringS row).length := by rw [← em, List.length_map]
      rw [el, ← em, List.getElem?_map] at hv
      obtain ⟨v', hv', rfl⟩ := Option.map_eq_some_iff.mp hv
      refine ⟨v', hv', .inr ?_⟩
      rcases he with he | he
      · exact ⟨edge_nx SL hf he, fun q hq => nx_uniq SL hf he hq⟩
      · have pm : ∀ p, p ∈ (row.map pt).reverse ↔ p ∈ row.map pt := fun p => List.mem_reverse
        exact ⟨nx_perm pm (edge_nx SU hfr he), fun q hq => nx_uniq SU hfr he (nx_perm (fun p => (pm p).symm) hq)⟩
  ) only [↓qt_eq])
theorem BodyOk.len {row bs : List Spot} (B : BodyOk row bs) : bs.length ≤ row.length := B.nd.length_le_of_subset B.sub
/-! ### on a line -/
theorem pop_line {q : Spot} (hq : q.length = 1) : ∀ {l : List Spot} {t : Spot}, (∀ s ∈ t :: l, s.length = 1) → popS q (t :: l) = [(t :: l).getLast (by simp)]
  | [], t, _ => rfl
  | s :: l, t, h => by
    have z : tn (pt s) (pt t) (pt q) = 0 := by
      obtain ⟨a, rfl⟩ := List.length_eq_one_iff.mp hq
      obtain ⟨b, rfl⟩ := List.length_eq_one_iff.mp (h t (by simp))
      obtain ⟨c, rfl⟩ := List.length_eq_one_iff.mp (h s (by simp))
      unfold tn cr sub pt
      grind
    unfold popS
    rw [if_pos (by rw [z]; exact Rat.le_refl), pop_line hq fun u hu => h u (List.mem_cons_of_mem _ hu), List.getLast_cons_cons]
theorem stack_line {a : Spot} : ∀ {row : List Spot} (hn : row ≠ []), (∀ s ∈ a :: row, s.length = 1) → stackS (a :: row) = [row.getLast hn, a] := by
  have key : ∀ (row : List Spot) (b : Spot), (∀ s ∈ row, s.length = 1) → a.length = 1 → b.length = 1 → row.foldl (fun st q => q :: popS q st) [b, a] = [(b :: row).getLast (by simp), a] := fun row => by
    induction row with
    | nil => intro b _ _ _; rfl
    | cons q row ih =>
      intro b h ha hb
      rw [List.foldl_cons, pop_line (h q (by simp)) (by intro s hs; simp at hs; rcases hs with rfl | rfl <;> assumption)]
      simp only [List.getLast_cons_cons, List.getLast_singleton]
      rw [ih q (fun s hs => h s (List.mem_cons_of_mem _ hs)) ha (h q (by simp))]
  intro row hn h
  match row, hn, h with
  | b :: row, hn, h =>
    show row.foldl (fun st q => q :: popS q st) (b :: popS b (a :: popS a [])) = _
    have e : popS b (a :: popS a []) = [a] := rfl
    rw [e, key row b (fun s hs => h s (by simp [hs])) (h a (by simp)) (h b (by simp))]
theorem ring_line {a b : Spot} {row : List Spot} (h : ∀ s ∈ a :: (row ++ [b]), s.length = 1) : ringS (a :: (row ++ [b])) = [a, b] := qt_of (by simp (disch := with_unfolding_all
  unfold ringS
  have e : (a :: (row ++ [b])).reverse = b :: (row.reverse ++ [a]) := by simp
  rw [stack_line (row := row ++ [b]) (by simp) h, e, stack_line (row := row.reverse ++ [a]) (by simp) (by intro s hs; apply h; simp at hs ⊢; grind)]
  simp
  ) only [↓qt_eq])
end U.Hull

end
section
/-! Land by sides and by threes. -/
namespace U.Hull
open U
end U.Hull

end
section
/-! What lies between the corners of a body. -/
namespace U.Hull
open U
/-! ### on a line -/
/-! ### bodies of more spots -/
/-! ### every spot lies in its body -/
end U.Hull

end
namespace U.N
open PySem PyProof.Rows L2 Evl
local macro_rules | `(tactic| walk_at "sd") => `(tactic| first | with_reducible assumption | omega | rfl | decide | assumption | exact Gd.mono (by assumption) (by first | decide | omega) | (simp only [List.length_map, List.length_append, List.length_cons, List.length_nil]; omega) | (simp; done))
local macro_rules | `(tactic| walk_at "ca") => `(tactic| first
  | ((with_reducible apply c_pull); (case h0 => walk_at "sd"); (case h1 => walk_at "sd"); intro _ _ _)
  | ((with_reducible apply c_cmp); (case hp => walk_at "sd"); (case hq => walk_at "sd"); (case hl => walk_at "sd"))
  | ((with_reducible apply c_spot); (case h0 => walk_at "sd"); (case hl => walk_at "sd"); intro _ _ _))
local macro_rules | `(tactic| walk_at "r1") => do
  let a ← ("ew_int ew_bl ew_str ew_non ew_tup0 ew_tup1 ew_tup2 ew_tup ew_lst0 ew_lst1 ew_lst2 ew_lst3 ew_lst ew_add ew_sub ew_mul ew_div ew_lt ew_le ew_gt ew_ge ew_neg ew_eq ew_ne ew_eqD ew_neD ew_leLe tw_test tw_B tw_yes tw_not tw_and tw_or ew_andV ew_if aw_nil aw_cons ew_cP ew_c0 ew_cW ew_intB ew_len ew_list ew_tuple ew_all ew_any ew_isi ew_isi2 ow_none ow_some ew_slL ew_catL ew_catA ew_inI ew_lc ew_lcN cw_clause ew_revL ew_srt iw_list iw_tup iw_seq iw_rng1 sq_nx sq_rt lp_nx lp_rt sw_next sw_if sw_ret sw_for gsc_nil gsc_cons gsw_nil gsw_cons rE_ok rE_fl xi_int xi_bool xi_tup xi_list x1_bool sc_int x_ol x_nx".splitOn " ").mapM fun (n : String) => `(tacticSeq| with_reducible refine $(Lean.mkCIdent (.str (.str (.str .anonymous "U") "N") n)):ident ?_)
  let b := a.toArray
  `(tactic| first $[| $b:tacticSeq]*)
local macro_rules | `(tactic| walk_at "r2") => do
  let a ← ("ew_var:h ew_ixO:hi ew_lenO:hi ew_tupO:hi ew_callB:hi ew_callWB:hi at0:h at1:h xi_it:h x1_it:h ew_dxO:hi ew_dxF:hi ew_dgetO:hi iw_dct:hi ew_inSO:hi ew_indexO:hi".splitOn " ").mapM fun (m : String) => do
    let q := m.splitOn ":"
    `(tacticSeq| ((with_reducible apply $(Lean.mkCIdent (.str (.str (.str .anonymous "U") "N") (q.headD ""))):ident); (case $(Lean.mkIdent (.str .anonymous (q.getLastD ""))):ident => rfl)))
  let b := a.toArray
  `(tactic| first $[| $b:tacticSeq]*)
local macro_rules | `(tactic| walk_at "s1") => `(tactic| first
  | ((with_reducible apply x_all); (case h => exact allB_map))
  | ((with_reducible apply x_any); (case h => exact anyB_map))
  | ((with_reducible apply x_sum); (case h => exact sumI_map))
  | ((with_reducible apply ew_glob); (case h => assumption))
  | ((with_reducible apply sw_app); (case hi => rfl); (case hl => walk_at "sd"))
  | ((with_reducible apply cw_elt); (case hm => walk_at "sd"))
  | ((with_reducible apply sw_clear); (case hi => rfl))
  | ((with_reducible apply x1_rng); (case hb => walk_at "sd"))
  | ((with_reducible apply x2_rng); (case hb => walk_at "sd"); (case hc => walk_at "sd"))
  | walk_at "r2"
  | walk_at "r1"
  | with_reducible refine ew_ix ?_
  | with_reducible refine ew_callNW ?_
  | with_reducible refine ew_callN ?_
  | with_reducible refine ew_callN0 ?_
  | with_reducible refine gw_name ?_
  | ((with_reducible refine gc_name ?wa ?_); (case wa => simp))
  | ((with_reducible refine gc_tup ?wa ?_); (case wa => rfl))
  | ((with_reducible refine gw_tup ?wa ?_); (case wa => rfl))
  | with_reducible refine cnd_t ?_
  | with_reducible refine cnd_f ?_
  | with_reducible refine cnd_nt ?_
  | with_reducible refine cnd_nf ?_
  | walk_at "ca"
  | ((with_reducible apply zip_f); (case hx => rfl); (case hy => rfl))
  | ((with_reducible apply zip_t); (case hx => rfl); (case hy => rfl); (case hl => walk_at "sd"))
  | with_reducible refine sw_asg ?_
  | ((with_reducible apply sw_dset); (case hi => rfl))
  | ((with_reducible apply sw_setI); (case hi => rfl))
  | with_reducible refine sw_asgT ?_
  | refine gsw_cons ?_
  | refine gsc_cons ?_
  | refine gsw_nil ?_
  | refine gsc_nil ?_
  | with_reducible exact trivial)
local macro_rules | `(tactic| walk_at "w1") => `(tactic| first | walk_at "s1" | with_reducible refine sw_seqA ?_ | with_reducible refine sw_seqD ?_ | with_reducible refine sw_seqF ?_ | with_reducible refine sw_seqP ?_ | with_reducible refine sw_seqG ?_ | with_reducible refine sw_seqW ?_)
local macro_rules | `(tactic| walk_at "s") => `(tactic| repeat walk_at "s1")
local macro_rules | `(tactic| walk_at "ef") => `(tactic| first
  | with_reducible refine ef_lst0 ?_
  | with_reducible refine ef_lst1 ?_
  | with_reducible refine ef_lst2 ?_
  | with_reducible refine ef_lst3 ?_
  | with_reducible refine ef_lst ?_
  | with_reducible refine ef_lc ?_
  | with_reducible refine ef_lcN ?_
  | with_reducible refine ef_list ?_
  | with_reducible refine ef_slL ?_
  | with_reducible refine ef_catL ?_
  | with_reducible refine ef_dct0 ?_
  | with_reducible refine ef_dc ?_
  | with_reducible refine ef_srt ?_
  | with_reducible refine ef_revL ?_)
local macro_rules | `(tactic| walk_at "wi") => `(tactic| repeat (first | walk_at "w1" | with_reducible refine sw_seq ?_))
local macro_rules | `(tactic| walk_at "w") => `(tactic| repeat walk_at "w1")
section
open PySem PyProof.Rows L2 Evl

section
variable {K : Fg} {cs : Cs} {gs : Gs} {φ : PyData → Prop} {A : Rs → Prop} {ε : Xw → Prop} {w : World}
/-! ### spots in order -/
noncomputable def P_cb : Pr := fun ds A => ∃ (x : PyData) (a N : Nat) (ss : List Spot), ds = [x] ∧ itemsOf x = some (ss.map frs) ∧ CbB a N ss ∧ a ≤ 4000 ∧ N ≤ 90000 ∧ A (.ok (.int (cb 1 ss)))
noncomputable def t_common_below (K : Fg) : TS := (tSeq (tAsg (tC (V.int 1)) (gName 1))
  (tSeq (tFor (iSeq K (tVar 0)) (gName 2) (tFor (iTup K (tVar 2)) (gTup K 2 (gCons (gName 3) (gCons (gName 4) gNil))) (tAsg (tOp rDivI (tOp rMulI (tVar 1) (tVar 4)) (tCall (spP K P_gcd) [] E0 (tCons (tVar 1) (tCons (tVar 4) tNil)))) (gName 1))))
  (tRet (tVar 1))))
-- slots of common_below: 0 spots, 1 found, 2 spot, 3 above, 4 below
theorem ln_common_below : ∀ ds A, P_cb ds A → ds.length = 1 := fun ds A h => by obtain ⟨_, _, _, _, rfl, _⟩ := h; rfl
theorem cb_snoc {acc : Int} {ss : List Spot} {s : Spot} : cb acc (ss ++ [s]) = cbS (cb acc ss) s := by unfold cb; rw [List.foldl_append]; rfl
theorem cbS_snoc {acc : Int} {s : Spot} {f : Fr} : cbS acc (s ++ [f]) = lcI (cbS acc s) f.2 := by unfold cbS; rw [List.foldl_append]; rfl
theorem Bd.g2 {n : Nat} {a b : Int} (hb : Bd n b) (h0 : b ≠ 0) : Bd n (gI a b) := by
  have h1 : Nat.gcd a.natAbs b.natAbs ≤ b.natAbs := Nat.gcd_le_right _ (by omega)
  have h2 : gN a b ≤ b.natAbs := Nat.max_le.mpr ⟨h1, by omega⟩
  unfold Bd gI at *
  rw [Int.natAbs_natCast]
  omega
theorem c_gcd {a b : Int} (h : φ (.int (gI a b))) : ∃ r, P_gcd [.int a, .int b] r ∧ φ r := ⟨_, ⟨a, b, rfl, rfl⟩, h⟩
theorem rd_common_below {ds A} (h : P_cb ds A) : SW K cs W0 (t_common_below K) (frame 5 ds) (rts0 A) := qt_of (by simp (disch := with_unfolding_all
  obtain ⟨x, a, N, ss, rfl, hx, hs, ha, hN, h⟩ := h
  obtain ⟨c0, c1, c2, c3⟩ := hs.cm
  unfold t_common_below
  walk_at "w"
  refine ⟨_, hx, forP (fun pre G => ∃ e2 e3 e4, G = [.d x, .d (.int (cb 1 pre)), e2, e3, e4]) ⟨_, _, _, rfl⟩ ?_ ?_⟩
  · rintro pre s post G1 e ⟨e2, e3, e4, rfl⟩
    have ms : s ∈ ss := by rw [e]; simp
    have mp : ∀ t ∈ pre, t ∈ ss := fun t ht => by rw [e]; simp [ht]
    obtain ⟨p1, p2⟩ := cb_dvd (acc := 1) (fun t ht => hs.gd t (mp t ht)) (by decide) (Int.one_dvd _) (fun t ht => c2 t (mp t ht))
    walk_at "w"
    refine forP (fun pr G => ∃ e3 e4, G = [.d x, .d (.int (cbS (cb 1 pre) pr)), .d (frs s), e3, e4]) ⟨_, _, rfl⟩ ?_ ?_
    · rintro pr f po G2 e' ⟨e3, e4, rfl⟩
      have mf : f ∈ s := by rw [e']; simp
      have mp' : ∀ t ∈ pr, t ∈ s := fun t ht => by rw [e']; simp [ht]
      have gf := hs.gd s ms f mf
      obtain ⟨q1, q2⟩ := cbS_dvd (fun t ht => hs.gd s ms t (mp' t ht)) p1 p2 (fun t ht => c2 s ms t (mp' t ht))
      have bt := bd_dvd c1 q2 c3
      walk_at "w"
      refine ⟨bt.cm gf.sz.2 (by omega), ?_⟩
      walk_at "w"
      refine c_gcd ?_
      walk_at "w"
      refine ⟨Bd.dv (n := 4000) (Int.ne_of_gt (gI_pos _ _)) (Bd.g2 (gf.sz.2.mono ha) gf.ne) (by decide), ?_⟩
      walk_at "w"
      exact ⟨_, _, by rw [cbS_snoc]; rfl⟩
    · rintro G2 ⟨e3, e4, rfl⟩
      exact ⟨_, _, _, by rw [cb_snoc]⟩
  · rintro G1 ⟨e2, e3, e4, rfl⟩
    walk_at "w"
    exact h
  ) only [↓qt_eq])
noncomputable def P_wr : Pr := fun ds A => ∃ (a : Nat) (s : Spot) (c : Int), ds = [frs s, .int c] ∧ Gds a s ∧ a ≤ 4000 ∧ s.length ≤ 1000 ∧ Bd 100000 c ∧ A (.ok (.list (inz (ky c s))))
noncomputable def t_whole_row (K : Fg) : TS := (tRet (tLc (iTup K (tVar 0)) (gTup K 2 (gCons (gName 2) (gCons (gName 3) gNil))) tYes (tOp rMulI (tVar 2) (tOp rDivI (tVar 1) (tVar 3))) [2, 3]))
-- slots of whole_row: 0 spot, 1 common, 2 above, 3 below
theorem ln_whole_row : ∀ ds A, P_wr ds A → ds.length = 2 := fun ds A h => by obtain ⟨_, _, _, rfl, _⟩ := h; rfl
theorem rd_whole_row {ds A} (h : P_wr ds A) : SW K cs W0 (t_whole_row K) (frame 4 ds) (rts0 A) := qt_of (by simp (disch := with_unfolding_all
  obtain ⟨a, s, c, rfl, hs, ha, hl, hc, h⟩ := h
  unfold t_whole_row
  walk_at "w"
  refine lcM (f := fr) (fun f => .int (kyF c f)) (by omega) (unk2 rfl rfl) (fun f mf => ?_) ?_
  · have gf := hs f mf
    walk_at "w"
    refine ⟨Bd.dv (n := 4000) gf.ne (gf.sz.2.mono ha) (by decide), ?_⟩
    walk_at "w"
    exact ⟨(gf.sz.1.mono ha).cm (hc.fdiv _) (by decide), rfl⟩
  · refine ⟨_, rfl, ?_⟩
    show A _
    unfold inz ky at h
    rw [List.map_map] at h
    exact h
  ) only [↓qt_eq])
noncomputable def P_rising : Pr := fun ds A => ∃ (x : PyData) (a N : Nat) (ss ys : List Spot), ds = [x] ∧ itemsOf x = some (ss.map frs) ∧ CbB a N ss ∧ a ≤ 4000 ∧ N ≤ 90000 ∧ (∀ s ∈ ss, s ≠ []) ∧ ss.length ≤ 2000000 ∧ (∀ s ∈ ss, s.length ≤ 1000) ∧ Rising ss ys ∧ A (.fl (ol (ys.map frs)))
noncomputable def t_rising (K : Fg) (w : World) : TS := (tSeq (tAsg (tCall (spW0 K P_cb) [] E0 (tCons (tVar 0) tNil)) (gName 1))
  (tSeq (tAsg (tDcd K w (iSeq K (tVar 0)) (gName 3) tYes (tCB (rTupQ K) (tCons (tCall (spW0 K P_wr) [] E0 (tCons (tVar 3) (tCons (tVar 1) tNil))) tNil)) (tVar 3) [3]) (gName 2))
  (tRet (tLc (iList K (tCB (rSrtD K w) (tCons (tVar 2) tNil))) (gName 4) tYes (tOp (rDx K w) (tVar 2) (tVar 4)) [4]))))
-- slots of rising: 0 spots, 1 common, 2 by_worth, 3 spot, 4 key
theorem ln_rising : ∀ ds A, P_rising ds A → ds.length = 1 := fun ds A h => by obtain ⟨_, _, _, _, _, rfl, _⟩ := h; rfl
/-! what a dict by a comprehension holds -/
section
variable {κ β γ : Type} [DecidableEq κ]
noncomputable def amap (m : List (κ × β)) (xs : List γ) (k : γ → κ) (v : γ → β) : List (κ × β) := xs.foldl (fun m x => aput m (k x) (v x)) m
theorem putAll_enc {ek : κ → List PyData} {ev : β → PyData} (inj : ∀ a b, kk (ek a) = kk (ek b) → a = b) (k : γ → κ) (v : γ → β) (xs : List γ) : putAll (xs.map fun x => some (ek (k x), ev (v x))) = encM ek ev (amap [] xs k v) := by
  have key : ∀ (xs : List γ) (m : List (κ × β)), (xs.map fun x => some (ek (k x), ev (v x))).foldl putO (encM ek ev m) = encM ek ev (amap m xs k v) := fun xs => by
    induction xs with
    | nil => intro m; rfl
    | cons x xs ih =>
      intro m
      rw [List.map_cons, List.foldl_cons]
      show (xs.map fun x => some (ek (k x), ev (v x))).foldl putO (putK (encM ek ev m) (ek (k x)) (ev (v x))) = _
      rw [put_enc inj, ih]
      rfl
  exact key xs []
theorem amap_get (k : γ → κ) (v : γ → β) (j : κ) : ∀ (xs : List γ) (m : List (κ × β)), (∃ x ∈ xs, k x = j ∧ aget (amap m xs k v) j = some (v x)) ∨ ((∀ x ∈ xs, k x ≠ j) ∧ aget (amap m xs k v) j = aget m j)
  | [], m => .inr ⟨(fun _ h => nomatch h), rfl⟩
  | x :: xs, m => by
    rcases amap_get k v j xs (aput m (k x) (v x)) with ⟨y, h1, h2, h3⟩ | ⟨h1, h2⟩
    · exact .inl ⟨y, List.mem_cons_of_mem _ h1, h2, h3⟩
    · by_cases e : k x = j
      · refine .inl ⟨x, List.mem_cons_self .., e, ?_⟩
        show aget (amap (aput m (k x) (v x)) xs k v) j = _
        rw [h2, aget_aput, if_pos e.symm]
      · refine .inr ⟨fun y hy => ?_, ?_⟩
        · rcases List.mem_cons.mp hy with rfl | hy
          · exact e
          · exact h1 y hy
        · show aget (amap (aput m (k x) (v x)) xs k v) j = _
          rw [h2, aget_aput, if_neg fun z => e z.symm]
theorem amap_keys (k : γ → κ) (v : γ → β) : ∀ (xs : List γ) (m : List (κ × β)), (m.map (·.1)).Nodup → ((amap m xs k v).map (·.1)).Nodup
  | [], m, h => h
  | x :: xs, m, h => amap_keys k v xs _ (aput_keys h)
theorem amap_mem {k : γ → κ} {v : γ → β} {xs : List γ} {j : κ} : j ∈ (amap [] xs k v).map (·.1) ↔ ∃ x ∈ xs, k x = j := qt_of (by simp (disch := with_unfolding_all
  rcases amap_get k v j xs [] with ⟨y, h1, h2, h3⟩ | ⟨h1, h2⟩
  · exact ⟨fun _ => ⟨y, h1, h2⟩, fun _ => List.mem_map.mpr ⟨_, aget_mem h3, rfl⟩⟩
  · constructor
    · intro h
      obtain ⟨p, hp, rfl⟩ := List.mem_map.mp h
      exact absurd rfl (aget_none.mp h2 p hp)
    · rintro ⟨x, hx, e⟩
      exact absurd e (h1 x hx)
  ) only [↓qt_eq])
end
/-- the spots by their keys, in order -/
noncomputable def risL (c : Int) (ss : List Spot) : List Spot := (srtI ((amap [] ss (ky c) id).map (·.1))).map fun j => (aget (amap [] ss (ky c) id) j).getD []
theorem ris_get {c : Int} {ss : List Spot} {j : List Int} (hj : j ∈ srtI ((amap [] ss (ky c) id).map (·.1))) : ∃ s ∈ ss, ky c s = j ∧ aget (amap [] ss (ky c) id) j = some s := by
  obtain ⟨x, hx, e⟩ := amap_mem.mp (srtI_mem.mp hj)
  rcases amap_get (ky c) id j ss [] with h | ⟨h1, h2⟩
  · exact h
  · exact absurd e (h1 x hx)
theorem risL_rising {c : Int} {ss : List Spot} (hc : 0 < c) (hs : ∀ s ∈ ss, SpC c s) : Rising ss (risL c ss) := by
  have hn : ((amap [] ss (ky c) id).map (·.1)).Nodup := amap_keys _ _ _ _ List.nodup_nil
  refine ⟨?_, fun s => ?_⟩
  · unfold risL
    rw [List.pairwise_map]
    refine (srtI_lt hn).imp_of_mem fun {a b} ha hb h => ?_
    obtain ⟨s, ms, e1, e2⟩ := ris_get ha
    obtain ⟨t, mt, e3, e4⟩ := ris_get hb
    rw [e2, e4]
    rw [← e1, ← e3] at h
    exact (ky_slt hc (hs s ms) (hs t mt)).mp h
  · unfold risL
    constructor
    · intro h
      obtain ⟨j, hj, rfl⟩ := List.mem_map.mp h
      obtain ⟨t, mt, e3, e4⟩ := ris_get hj
      rw [e4]; exact mt
    · intro h
      have hj : ky c s ∈ srtI ((amap [] ss (ky c) id).map (·.1)) := srtI_mem.mpr (amap_mem.mpr ⟨s, h, rfl⟩)
      refine List.mem_map.mpr ⟨ky c s, hj, ?_⟩
      obtain ⟨t, mt, e3, e4⟩ := ris_get hj
      rw [e4]
      exact ky_inj hc (hs t mt) (hs s h) e3
theorem c_wr {a : Nat} {s : Spot} {c : Int} (hs : Gds a s) (ha : a ≤ 4000) (hl : s.length ≤ 1000) (hc : Bd 100000 c) (h : φ (.list (inz (ky c s)))) : P_wr [frs s, .int c] (rE φ ε) := ⟨a, s, c, rfl, hs, ha, hl, hc, h⟩
theorem rd_rising {ds A} (h : P_rising ds A) : SW K cs W0 (t_rising K w) (frame 5 ds) (rts0 A) := qt_of (by simp (disch := with_unfolding_all
  obtain ⟨x, a, N, ss, ys, rfl, hx, hs, ha, hN, hne, hz, hr0, hr, h⟩ := h
  obtain ⟨c1, c2, c3⟩ := hs.spc
  unfold t_rising
  walk_at "w"
  refine ⟨x, a, N, ss, rfl, hx, hs, ha, hN, ?_⟩
  show SW _ _ _ _ _ _
  refine sw_seq (sw_asgF ?_)
  walk_at "ef"
  walk_at "w"
  refine ⟨_, hx, dcM (f := frs) (fun s => inz (ky (cb 1 ss) s)) (fun s => frs s) (by omega) (unk1 rfl) (fun s ms => ?_) fun ep => ?_⟩
  · walk_at "w"
    refine c_wr (hs.gd s ms) ha (hr0 s ms) (c3.mono (by omega)) ?_
    walk_at "w"
    exact ⟨rfl, kg_ints _, rfl⟩
  · show SW _ _ _ _ _ _
    have ee : putAll (ss.map fun x => some (inz (ky (cb 1 ss) x), frs x)) = encM inz frs (amap [] ss (ky (cb 1 ss)) id) := putAll_enc (ek := inz) (ev := frs) kk_inj (ky (cb 1 ss)) id ss
    have el := putAll_len (ss.map fun x => some (inz (ky (cb 1 ss) x), frs x))
    rw [ee, List.length_map] at el
    rw [ee]
    have ek : (encM inz frs (amap [] ss (ky (cb 1 ss)) id)).map (fun q => PyData.tuple q.1) = ((amap [] ss (ky (cb 1 ss)) id).map (·.1)).map fun j => PyData.tuple (inz j) := by
      unfold encM
      rw [List.map_map, List.map_map]
      rfl
    have en : ∀ j ∈ (amap [] ss (ky (cb 1 ss)) id).map (·.1), j ≠ [] := fun j hj => by
      obtain ⟨s, ms, rfl⟩ := amap_mem.mp hj
      exact fun z => hne s ms (List.map_eq_nil_iff.mp z)
    have hlen : (srtI ((amap [] ss (ky (cb 1 ss)) id).map (·.1))).length ≤ 16000000 := by
      unfold srtI
      unfold encM at el
      rw [List.length_map] at el
      rw [List.length_mergeSort, List.length_map]
      omega
    refine sw_retF (ef_lc (iw_list (ew_srtD (.inl rfl) (by rw [ek]; exact ok_tups en) ⟨_, rfl, ?_⟩)))
    rw [ek, srt_tups]
    refine lcM (fun j => frs ((aget (amap [] ss (ky (cb 1 ss)) id) j).getD [])) hlen (unk1 rfl) (fun j mj => ?_) ?_
    · obtain ⟨t, mt, e3, e4⟩ := ris_get mj
      walk_at "w"
      refine ⟨_, frs t, rfl, kg_ints _, ?_, ?_⟩
      · rw [look_enc (ek := inz) kk_inj, e4]; rfl
      · rw [e4]; rfl
    · have e : ys = risL (cb 1 ss) ss := rising_uniq hr (risL_rising c1 c2)
      rw [e] at h
      unfold risL at h
      rw [List.map_map] at h
      exact h
  ) only [↓qt_eq])
end


end
section
open PySem PyProof.Rows L2 Evl

section
variable {K : Fg} {cs : Cs} {gs : Gs} {φ : PyData → Prop} {A : Rs → Prop} {ε : Xw → Prop} {w : World}
/-! ### the law's own order -/
noncomputable def t__law_below (K : Fg) : TS := (tSeq (tAsg (tC (V.int 1)) (gName 1))
  (tSeq (tFor (iSeq K (tVar 0)) (gName 2) (tFor (iTup K (tVar 2)) (gName 3) (tAsg (tOp rDivI (tOp rMulI (tVar 1) (tOp (rIx K) (tVar 3) (tC (V.int 1)))) (tCall (spP K P_gcd) [] E0 (tCons (tVar 1) (tCons (tOp (rIx K) (tVar 3) (tC (V.int 1))) tNil)))) (gName 1))))
  (tRet (tVar 1))))
-- slots of _law_below: 0 _law_spots_here, 1 _law_found, 2 _law_spot_here, 3 _law_one
theorem ln__law_below : ∀ ds A, P_cb ds A → ds.length = 1 := ln_common_below
theorem rd__law_below {ds A} (h : P_cb ds A) : SW K cs W0 (t__law_below K) (frame 4 ds) (rts0 A) := qt_of (by simp (disch := with_unfolding_all
  obtain ⟨x, a, N, ss, rfl, hx, hs, ha, hN, h⟩ := h
  obtain ⟨c0, c1, c2, c3⟩ := hs.cm
  unfold t__law_below
  walk_at "w"
  refine ⟨_, hx, forP (fun pre G => ∃ e2 e3, G = [.d x, .d (.int (cb 1 pre)), e2, e3]) ⟨_, _, rfl⟩ ?_ ?_⟩
  · rintro pre s post G1 e ⟨e2, e3, rfl⟩
    have ms : s ∈ ss := by rw [e]; simp
    have mp : ∀ t ∈ pre, t ∈ ss := fun t ht => by rw [e]; simp [ht]
    obtain ⟨p1, p2⟩ := cb_dvd (acc := 1) (fun t ht => hs.gd t (mp t ht)) (by decide) (Int.one_dvd _) (fun t ht => c2 t (mp t ht))
    walk_at "w"
    refine forP (fun pr G => ∃ e3, G = [.d x, .d (.int (cbS (cb 1 pre) pr)), .d (frs s), e3]) ⟨_, rfl⟩ ?_ ?_
    · rintro pr f po G2 e' ⟨e3, rfl⟩
      have mf : f ∈ s := by rw [e']; simp
      have mp' : ∀ t ∈ pr, t ∈ s := fun t ht => by rw [e']; simp [ht]
      have gf := hs.gd s ms f mf
      obtain ⟨q1, q2⟩ := cbS_dvd (fun t ht => hs.gd s ms t (mp' t ht)) p1 p2 (fun t ht => c2 s ms t (mp' t ht))
      have bt := bd_dvd c1 q2 c3
      walk_at "w"
      refine ⟨bt.cm gf.sz.2 (by omega), ?_⟩
      walk_at "w"
      refine c_gcd ?_
      walk_at "w"
      refine ⟨Bd.dv (n := 4000) (Int.ne_of_gt (gI_pos _ _)) (Bd.g2 (gf.sz.2.mono ha) gf.ne) (by decide), ?_⟩
      walk_at "w"
      exact ⟨_, by rw [cbS_snoc]; rfl⟩
    · rintro G2 ⟨e3, rfl⟩
      exact ⟨_, _, by rw [cb_snoc]⟩
  · rintro G1 ⟨e2, e3, rfl⟩
    walk_at "w"
    exact h
  ) only [↓qt_eq])
noncomputable def P_lkey : Pr := fun ds A => ∃ (x : PyData) (a : Nat) (ss : List Spot) (c : Int), ds = [x, .int c] ∧ itemsOf x = some (ss.map frs) ∧ (∀ s ∈ ss, Gds a s ∧ s.length ≤ 1000) ∧ a ≤ 4000 ∧ ss.length ≤ 10000 ∧ Bd 8000 c ∧ A (.ok (.list (inz (ss.flatMap (ky c)))))
noncomputable def t__law_key (K : Fg) : TS := (tSeq (tAsg (tLst tNil) (gName 2))
  (tSeq (tFor (iSeq K (tVar 0)) (gName 3) (tDrop (tBM K "list" rExtend (tVar 2) (tCons (tLc (iTup K (tVar 3)) (gName 4) tYes (tOp rMulI (tOp (rIx K) (tVar 4) (tC (V.int 0))) (tOp rDivI (tVar 1) (tOp (rIx K) (tVar 4) (tC (V.int 1))))) [4]) tNil))))
  (tRet (tVar 2))))
-- slots of _law_key: 0 _law_spots_here, 1 _law_below_here, 2 _law_found, 3 _law_spot_here, 4 _law_one
theorem ln__law_key : ∀ ds A, P_lkey ds A → ds.length = 2 := fun ds A h => by obtain ⟨_, _, _, _, rfl, _⟩ := h; rfl
theorem flat_len {c : Int} {n : Nat} : ∀ {ss : List Spot}, (∀ s ∈ ss, s.length ≤ n) → (ss.flatMap (ky c)).length ≤ ss.length * n
  | [], _ => by simp
  | s :: ss, h => by
    have h1 := flat_len (c := c) (ss := ss) fun t ht => h t (List.mem_cons_of_mem _ ht)
    have h2 := h s (List.mem_cons_self ..)
    have h3 : (ky c s).length = s.length := List.length_map ..
    rw [List.flatMap_cons, List.length_append, List.length_cons, Nat.succ_mul]
    omega
theorem rd__law_key {ds A} (h : P_lkey ds A) : SW K cs W0 (t__law_key K) (frame 5 ds) (rts0 A) := qt_of (by simp (disch := with_unfolding_all
  obtain ⟨x, a, ss, c, rfl, hx, hs, ha, hl, hc, h⟩ := h
  unfold t__law_key
  refine sw_seq (sw_asgF (ef_lst0 ?_))
  walk_at "w"
  refine ⟨_, hx, forP (fun pre G => ∃ e3, G = [.d x, .d (.int c), .ow (ol (inz (pre.flatMap (ky c)))), e3, .un]) ⟨_, rfl⟩ ?_ ?_⟩
  · rintro pre s post G1 e ⟨e3, rfl⟩
    have ms : s ∈ ss := by rw [e]; simp
    have bnd := flat_len (c := c) (ss := ss) (n := 1000) fun t ht => (hs t ht).2
    rw [e, List.flatMap_append, List.flatMap_cons, List.length_append, List.length_append] at bnd
    have e0 : (pre ++ s :: post).length = ss.length := by rw [e]
    walk_at "w"
    refine sw_ext rfl ?_
    walk_at "ef"
    walk_at "w"
    refine lcM (f := fr) (fun f => .int (kyF c f)) (by have := (hs s ms).2; omega) (unk1 rfl) (fun f mf => ?_) ?_
    · have gf := (hs s ms).1 f mf
      walk_at "w"
      refine ⟨Bd.dv (n := 4000) gf.ne (gf.sz.2.mono ha) (by decide), ?_⟩
      walk_at "w"
      exact ⟨(gf.sz.1.mono ha).cm (hc.fdiv _) (by decide), rfl⟩
    · refine ⟨_, rfl, ?_, ?_⟩
      · rw [List.length_map, List.length_map]
        have h1 : (ky c s).length = s.length := List.length_map ..
        omega
      · have e5 : inz ((pre ++ [s]).flatMap (ky c)) = inz (pre.flatMap (ky c)) ++ s.map fun f => PyData.int (kyF c f) := by
          rw [List.flatMap_append, List.flatMap_singleton]
          unfold inz ky
          rw [List.map_append, List.map_map]
          rfl
        exact ⟨_, by rw [e5]; rfl⟩
  · rintro G1 ⟨e3, rfl⟩
    refine sw_freeze (i := 2) rfl ?_
    walk_at "w"
    exact h
  ) only [↓qt_eq])
noncomputable def P_lrising : Pr := fun ds A => ∃ (x : PyData) (a N : Nat) (ss ys : List Spot), ds = [x] ∧ itemsOf x = some (ss.map frs) ∧ CbB a N ss ∧ a ≤ 4000 ∧ N ≤ 7000 ∧ a + N ≤ 7900 ∧ (∀ s ∈ ss, s ≠ []) ∧ ss.length ≤ 10000 ∧ (∀ s ∈ ss, s.length ≤ 1000) ∧ Rising ss ys ∧ A (.fl (ol (ys.map frs)))
noncomputable def t__law_rising (K : Fg) : TS := (tSeq (tAsg (tCall (spW0 K P_cb) [] E0 (tCons (tVar 0) tNil)) (gName 1))
  (tSeq (tAsg (tCB (rSrtL K) (tCons (tLc (iSeq K (tVar 0)) (gName 5) tYes (tCall (spW0 K P_lkey) [] E0 (tCons (tLst (tCons (tVar 5) tNil)) (tCons (tVar 1) tNil))) [5]) tNil)) (gName 2))
  (tSeq (tAsg (tLst tNil) (gName 3))
  (tSeq (tFor (iList K (tVar 2)) (gName 4) (tSeq (tAsg (tCB (rTupQ K) (tCons (tLc (iList K (tVar 4)) (gName 6) tYes (tCall (spP K P_frac) [] E0 (tCons (tVar 6) (tCons (tVar 1) tNil))) [6]) tNil)) (gName 5))
  (tIfS (tTest (tOp (rInS K true) (tVar 5) (tVar 3))) (tDrop (tBM K "list" rAppend (tVar 3) (tCons (tVar 5) tNil))) tNext)))
  (tRet (tVar 3))))))
-- slots of _law_rising: 0 _law_spots_here, 1 _law_below_here, 2 _law_keys, 3 _law_found, 4 _law_key_here, 5 _law_spot_here, 6 _law_one
theorem ln__law_rising : ∀ ds A, P_lrising ds A → ds.length = 1 := fun ds A h => by obtain ⟨_, _, _, _, _, rfl, _⟩ := h; rfl
theorem frac_ky {a n : Nat} {c : Int} {f : Fr} (hf : Gd a f) (hc : 0 < c) (bc : Bd n c) (hd : f.2 ∣ c) : fracF (kyF c f) c = f := qt_of (by simp (disch := with_unfolding_all
  have g : Gd (a + n) (fracF (kyF c f) c) := Gd.frac (hf.sz.1.mul (bc.fdiv _)) (bc.mono (by omega)) (Int.ne_of_gt hc)
  refine gd_inj g hf ?_
  rw [val_frac (Int.ne_of_gt hc), kyF_val hf.pos hd]
  have := qne (Int.ne_of_gt hc)
  grind
  ) only [↓qt_eq])
theorem any_frs (fs : List Spot) (s : Spot) : ((fs.map frs).any fun z => PyData.eqv z (frs s)) = decide (s ∈ fs) := qt_of (by simp (disch := with_unfolding_all
  rw [List.any_map]
  have e : (fun z => PyData.eqv z (frs s)) ∘ frs = fun t : Spot => decide (t = s) := funext fun t => eqv_frs t s
  rw [e]
  by_cases h : s ∈ fs
  · rw [decide_eq_true h, List.any_eq_true]
    exact ⟨s, h, by simp⟩
  · rw [decide_eq_false h, List.any_eq_false]
    intro t ht
    have : t ≠ s := fun z => h (by rw [← z]; exact ht)
    simpa using this
  ) only [↓qt_eq])
theorem sh_frs {s : Spot} (h : s.length ≤ 1000) : SeqAt.shaped (frs s) = true := shaped_ok (n := 2) (can_frs s) (okD_frs (by omega)) (by decide)
theorem sh_frss {fs : List Spot} (hl : fs.length ≤ 100000) (h : ∀ s ∈ fs, s.length ≤ 1000) : SeqAt.shaped (.list (fs.map frs)) = true := shaped_ok (n := 3) (can_list fun x hx => by
    obtain ⟨s, _, rfl⟩ := List.mem_map.mp hx
    exact can_frs s) (okD_list (by rw [List.length_map]; omega) fun x hx => by
    obtain ⟨s, ms, rfl⟩ := List.mem_map.mp hx
    exact okD_frs (n := 0) (by have := h s ms; omega)) (by decide)
theorem c_lkey1 {a : Nat} {s : Spot} {c : Int} (hs : Gds a s) (ha : a ≤ 4000) (hl : s.length ≤ 1000) (hc : Bd 8000 c) (h : φ (.list (inz (ky c s)))) : P_lkey [.list [frs s], .int c] (rE φ ε) :=
  ⟨_, a, [s], c, rfl, rfl, fun t ht => by rw [List.mem_singleton.mp ht]; exact ⟨hs, hl⟩, ha, by simp, hc, by rw [List.flatMap_singleton]; exact h⟩
theorem rd__law_rising {ds A} (h : P_lrising ds A) : SW K cs W0 (t__law_rising K) (frame 7 ds) (rts0 A) := qt_of (by simp (disch := with_unfolding_all
  obtain ⟨x, a, N, ss, ys, rfl, hx, hs, ha, hN, haN, hne, hz, hr0, hr, h⟩ := h
  obtain ⟨c1, c2, c3⟩ := hs.spc
  have c4 : Bd 8000 (cb 1 ss) := c3.mono (by omega)
  generalize hcc : cb 1 ss = c at c1 c2 c3 c4
  unfold t__law_rising
  walk_at "w"
  refine ⟨x, a, N, ss, rfl, hx, hs, ha, by omega, ?_⟩
  rw [hcc]
  show SW _ _ _ _ _ _
  walk_at "w"
  refine ⟨_, hx, lcM (f := frs) (fun s => .list (inz (ky c s))) (by omega) (unk1 rfl) (fun s ms => ?_) ?_⟩
  · walk_at "w"
    refine c_lkey1 (hs.gd s ms) ha (hr0 s ms) c4 ?_
    rfl
  · refine ⟨_, rfl, ?_⟩
    have ek : (ss.map fun s => PyData.list (inz (ky c s))) = (ss.map (ky c)).map fun j => PyData.list (inz j) := by rw [List.map_map]; rfl
    rw [ek]
    refine ⟨_, rfl, ok_lists _, ?_⟩
    rw [srt_lists]
    show SW _ _ _ _ _ _
    refine sw_seq (sw_asgF (ef_lst0 ?_))
    walk_at "w"
    have pw := srtI_pw (ss.map (ky c))
    refine forP (fun pre G => ∃ fs e4 e5, G = [.d x, .d (.int c), .d (.list ((srtI (ss.map (ky c))).map fun j => PyData.list (inz j))), .ow (ol (fs.map frs)), e4, e5, .un] ∧ fs.Pairwise sLt ∧ (∀ s, s ∈ fs ↔ s ∈ ss ∧ ky c s ∈ pre) ∧ fs.length ≤ pre.length) ⟨[], _, _, rfl, .nil, by simp, by simp⟩ ?_ ?_
    · rintro pre j post G1 e ⟨fs, e4, e5, rfl, p1, p2, p3⟩
      have mj : j ∈ srtI (ss.map (ky c)) := by rw [e]; simp
      obtain ⟨s, ms, ej⟩ := List.mem_map.mp (srtI_mem.mp mj)
      subst ej
      have hlen : pre.length + 1 ≤ ss.length := by
        have : (srtI (ss.map (ky c))).length = ss.length := by unfold srtI; rw [List.length_mergeSort, List.length_map]
        rw [e, List.length_append, List.length_cons] at this
        omega
      have e6 : (ky c s).map (fun i => fr (fracF i c)) = s.map fr := by
        unfold ky
        rw [List.map_map]
        refine List.map_congr_left fun f mf => ?_
        show fr (fracF (kyF c f) c) = fr f
        rw [frac_ky (hs.gd s ms f mf) c1 c3 ((c2 s ms).dv f mf)]
      have lls := hr0 s ms
      walk_at "w"
      refine lcM (f := PyData.int) (fun i => fr (fracF i c)) (by rw [List.length_map]; omega) (unk1 rfl) (fun i mi => ?_) ?_
      · obtain ⟨f, mf, rfl⟩ := List.mem_map.mp mi
        walk_at "w"
        refine c_fracN ?_ ?_ rfl
        · exact ((hs.gd s ms f mf).sz.1.mul (c3.fdiv _)).mono (by omega)
        · exact c3.mono (by omega)
      · refine ⟨_, rfl, ?_⟩
        rw [e6]
        walk_at "wi"
        refine ⟨sh_frs (by omega), sh_frss (by omega) fun t mt => (hr0 t ((p2 t).mp mt).1), _, rfl, ?_⟩
        have ea : ((fs.map frs).any fun z => z.eqv (PyData.tuple (s.map fr))) = decide (s ∈ fs) := any_frs fs s
        rw [if_pos rfl, ea]
        refine cnd_nd (fun hn => ?_) (fun hn => ?_)
        · have es : fs.map frs ++ [PyData.tuple (s.map fr)] = (fs ++ [s]).map frs := by rw [List.map_append]; rfl
          refine sw_app rfl (by rw [List.length_map]; omega) ?_
          walk_at "w"
          rw [es]
          refine ⟨fs ++ [s], _, _, rfl, ?_, fun t => ?_, by rw [List.length_append, List.length_append]; simpa using p3⟩
          · rw [List.pairwise_append]
            refine ⟨p1, List.pairwise_singleton _ _, fun t mt u mu => ?_⟩
            rw [List.mem_singleton.mp mu]
            obtain ⟨m1, m2⟩ := (p2 t).mp mt
            have hle : ky c t ≤ ky c s := by
              rw [e, List.pairwise_append] at pw
              exact pw.2.2 _ m2 _ (List.mem_cons_self ..)
            rcases List.le_iff_lt_or_eq.mp hle with h1 | h1
            · exact (ky_slt c1 (c2 t m1) (c2 s ms)).mp h1
            · exact absurd (ky_inj c1 (c2 t m1) (c2 s ms) h1 ▸ mt) hn
          · rw [List.mem_append, List.mem_append, List.mem_singleton, List.mem_singleton, p2 t]
            constructor
            · rintro (⟨h1, h2⟩ | rfl)
              · exact ⟨h1, .inl h2⟩
              · exact ⟨ms, .inr rfl⟩
            · rintro ⟨h1, h2 | h2⟩
              · exact .inl ⟨h1, h2⟩
              · exact .inr (ky_inj c1 (c2 t h1) (c2 s ms) h2)
        · walk_at "w"
          refine ⟨fs, _, _, rfl, p1, fun t => ?_, by rw [List.length_append]; omega⟩
          rw [List.mem_append, List.mem_singleton, p2 t]
          constructor
          · rintro ⟨h1, h2⟩
            exact ⟨h1, .inl h2⟩
          · rintro ⟨h1, h2 | h2⟩
            · exact ⟨h1, h2⟩
            · rw [ky_inj c1 (c2 t h1) (c2 s ms) h2]
              exact (p2 s).mp hn
    · rintro G1 ⟨fs, e4, e5, rfl, p1, p2, p3⟩
      refine sw_retO (i := 3) rfl ?_
      have e : ys = fs := rising_uniq hr ⟨p1, fun s => ⟨fun hs => ((p2 s).mp hs).1, fun hs => (p2 s).mpr ⟨hs, srtI_mem.mpr (List.mem_map.mpr ⟨s, hs, rfl⟩)⟩⟩⟩
      rw [e] at h
      exact h
  ) only [↓qt_eq])
end


end
section
open PySem PyProof.Rows L2 Evl U.Hull

section
variable {K : Fg} {cs : Cs} {gs : Gs} {φ : PyData → Prop} {A : Rs → Prop} {ε : Xw → Prop} {w : World}
/-! ### corners round -/
noncomputable def P_hull : Pr := fun ds A => ∃ (row : List Spot), ds = [.list (row.map frs)] ∧ (∀ s ∈ row, Gds 900 s ∧ s.length = 2) ∧ row.length ≤ 10000 ∧ A (.fl (ol ((stackS row).reverse.map frs)))
noncomputable def t_hull_side (K : Fg) : TS := (tSeq (tAsg (tLst tNil) (gName 1))
  (tSeq (tFor (iList K (tVar 0)) (gName 2) (tSeq (tWhile (tAnd (tTest (tOp rGtI (tCB (rLenQ K) (tCons (tVar 1) tNil)) (tC (V.int 1)))) (tTest (tOp rLeI (tCall (spP K P_side) [] E0 (tCons (tOp (rIx K) (tVar 1) (tUn rNegI (tC (V.int 2)))) (tCons (tOp (rIx K) (tVar 1) (tUn rNegI (tC (V.int 1)))) (tCons (tVar 2) tNil)))) (tC (V.int 0))))) (tDrop (tBM0 K "list" rPop (tVar 1))))
  (tDrop (tBM K "list" rAppend (tVar 1) (tCons (tVar 2) tNil)))))
  (tRet (tVar 1))))
-- slots of hull_side: 0 spots, 1 found, 2 spot
theorem ln_hull_side : ∀ ds A, P_hull ds A → ds.length = 1 := fun ds A h => by obtain ⟨_, rfl, _⟩ := h; rfl
theorem sgnQ_le (x : Rat) : decide (sgnQ x ≤ 0) = decide (x ≤ 0) := by
  unfold sgnQ
  by_cases h : 0 < x
  · rw [if_pos h, decide_eq_false (by decide), decide_eq_false (by grind)]
  · rw [if_neg h, decide_eq_true (by split <;> decide), decide_eq_true (by grind)]
theorem sgnQ_ge (x : Rat) : decide (0 ≤ sgnQ x) = decide (0 ≤ x) := qt_of (by simp (disch := with_unfolding_all
  unfold sgnQ
  by_cases h : 0 < x
  · rw [if_pos h, decide_eq_true (by decide), decide_eq_true (by grind)]
  · rw [if_neg h]
    by_cases h2 : x < 0
    · rw [if_pos h2, decide_eq_false (by decide), decide_eq_false (by grind)]
    · rw [if_neg h2, decide_eq_true (by decide), decide_eq_true (by grind)]
  ) only [↓qt_eq])
theorem c_side {s t u : Spot} (hs : Gds 900 s) (ls : s.length = 2) (ht : Gds 900 t) (lt : t.length = 2) (hu : Gds 900 u) (lu : u.length = 2) (h : φ (.int (sgnQ (tn (pt s) (pt t) (pt u))))) : ∃ r, P_side [frs s, frs t, frs u] r ∧ φ r := qt_of (by simp (disch := with_unfolding_all
  obtain ⟨a, b, rfl⟩ := two_of ls
  obtain ⟨c, d, rfl⟩ := two_of lt
  obtain ⟨e, f, rfl⟩ := two_of lu
  refine ⟨_, ⟨a, b, c, d, e, f, rfl, hs.fst, hs.snd, ht.fst, ht.snd, hu.fst, hu.snd, rfl⟩, ?_⟩
  rw [side_val hs ht hu]
  exact h
  ) only [↓qt_eq])
theorem stackS_len {row : List Spot} : (stackS row).length ≤ row.length := qt_of (by simp (disch := with_unfolding_all
  have pl : ∀ (q : Spot) (l : List Spot), (popS q l).length ≤ l.length := fun q l => by
    induction l with
    | nil => exact Nat.le_refl _
    | cons t l ih =>
      cases l with
      | nil => exact Nat.le_refl _
      | cons s r =>
        unfold popS
        split
        · exact Nat.le_succ_of_le ih
        · exact Nat.le_refl _
  have key : ∀ (row st : List Spot), (row.foldl (fun st q => q :: popS q st) st).length ≤ st.length + row.length := fun row => by
    induction row with
    | nil => intro st; exact Nat.le_refl _
    | cons q row ih =>
      intro st
      have h1 := ih (q :: popS q st)
      have h2 := pl q st
      rw [List.length_cons] at h1
      rw [List.foldl_cons, List.length_cons]
      omega
  have := key row []
  simpa [stackS] using this
  ) only [↓qt_eq])
theorem stackS_snoc {row : List Spot} {s : Spot} : stackS (row ++ [s]) = s :: popS s (stackS row) := by unfold stackS; rw [List.foldl_append]; rfl
theorem rd_hull_side {ds A} (h : P_hull ds A) : SW K cs W0 (t_hull_side K) (frame 3 ds) (rts0 A) := qt_of (by simp (disch := with_unfolding_all
  obtain ⟨row, rfl, hs, hl, h⟩ := h
  unfold t_hull_side
  refine sw_seq (sw_asgF (ef_lst0 ?_))
  walk_at "w"
  refine forP (fun pre G => ∃ e2, G = [.d (.list (row.map frs)), .ow (ol ((stackS pre).reverse.map frs)), e2]) ⟨_, rfl⟩ ?_ ?_
  · rintro pre s post G1 e ⟨e2, rfl⟩
    have ms : s ∈ row := by rw [e]; simp
    have mp : ∀ t ∈ pre, t ∈ row := fun t ht => by rw [e]; simp [ht]
    have lpr : pre.length + 1 ≤ row.length := by rw [e]; simp
    have sl := stackS_len (row := pre)
    walk_at "w"
    refine sw_while (fun n G => ∃ st : List Spot, st.length = n ∧ st.length ≤ pre.length ∧ popS s st = popS s (stackS pre) ∧ (∀ p ∈ st, p ∈ row) ∧ G = [.d (.list (row.map frs)), .ow (ol (st.reverse.map frs)), .d (frs s)]) (stackS pre).length ⟨stackS pre, rfl, sl, rfl, fun p hp => mp p (stackS_sub p hp), rfl⟩ ?_
    rintro n _ ⟨st, hn, hln, hp, hm, rfl⟩
    have fin : popS s st = st → SW K cs W0 (tDrop (tBM K "list" rAppend (tVar 1) (tCons (tVar 2) tNil))) [.d (.list (row.map frs)), .ow (ol (st.reverse.map frs)), .d (frs s)] (lp (fun G => ∃ e2, G = [.d (.list (row.map frs)), .ow (ol ((stackS (pre ++ [s])).reverse.map frs)), e2]) (sq K cs W0 (tRet (tVar 1)) (rts0 A))) := fun e => by
      have es : (stackS (pre ++ [s])).reverse.map frs = st.reverse.map frs ++ [frs s] := by
        rw [stackS_snoc, ← hp, e, List.reverse_cons, List.map_append]; rfl
      rw [es]
      refine sw_app rfl (by rw [List.length_map, List.length_reverse]; omega) ?_
      walk_at "w"
      exact ⟨_, rfl⟩
    walk_at "w"
    match st, hn, hln, hp, hm, fin with
    | [], hn, hln, hp, hm, fin =>
      refine cnd_no (by simp) ?_
      refine cnd_f ?_
      exact fin rfl
    | [t], hn, hln, hp, hm, fin =>
      refine cnd_no (by simp) ?_
      refine cnd_f ?_
      exact fin rfl
    | t :: u :: r, hn, hln, hp, hm, fin =>
      refine cnd_yes (by simp; omega) ?_
      have gt := hs t (hm t (by simp))
      have gu := hs u (hm u (by simp))
      have gs := hs s ms
      have er : (t :: u :: r).reverse.map frs = r.reverse.map frs ++ [frs u, frs t] := by simp
      have a1 : atI ((t :: u :: r).reverse.map frs) (-1) = some (frs t) := by
        rw [er]; exact atm (k := 1) (by simp) (by decide) (by simp)
      have a2 : atI ((t :: u :: r).reverse.map frs) (-2) = some (frs u) := by
        rw [er]; exact atm (k := 2) (by simp) (by decide) (by simp)
      walk_at "w"
      refine ⟨_, a2, ?_⟩
      walk_at "w"
      refine ⟨_, a1, ?_⟩
      walk_at "w"
      refine c_side gu.1 gu.2 gt.1 gt.2 gs.1 gs.2 ?_
      walk_at "w"
      rw [sgnQ_le]
      refine cnd_d (fun hc => ?_) (fun hc => ?_)
      · refine sw_popD rfl (by simp) ?_
        refine ⟨(u :: r).length, by rw [← hn]; simp, u :: r, rfl, by simp at hln ⊢; omega, ?_, fun p hp => hm p (List.mem_cons_of_mem _ hp), ?_⟩
        · rw [← hp]
          conv => rhs; unfold popS
          rw [if_pos hc]
        · rw [List.reverse_cons, List.map_append, List.map_cons, List.map_nil, List.dropLast_concat]
          rfl
      · refine fin ?_
        unfold popS
        rw [if_neg hc]
  · rintro G1 ⟨e2, rfl⟩
    refine sw_retO (i := 1) rfl ?_
    exact h
  ) only [↓qt_eq])
end


end
section
open PySem PyProof.Rows L2 Evl U.Hull

section
variable {K : Fg} {cs : Cs} {gs : Gs} {φ : PyData → Prop} {A : Rs → Prop} {ε : Xw → Prop} {w : World}
/-- spots of one room, of bounded numbers and bounded many -/
structure SpR (a r : Nat) (ss : List Spot) : Prop where
  hr : r = 1 ∨ r = 2
  gd : ∀ s ∈ ss, Gds a s ∧ s.length = r
  ne : ss ≠ []
  ha : a ≤ 900
  hl : ss.length ≤ 10000
  hb : ∃ N, N ≤ 6900 ∧ CbB a N ss
theorem SpR.l1 {a r : Nat} {ss : List Spot} (h : SpR a r ss) : ∀ s ∈ ss, s.length ≤ 1000 := fun s hs => by have := (h.gd s hs).2; have := h.hr; omega
theorem SpR.nes {a r : Nat} {ss : List Spot} (h : SpR a r ss) : ∀ s ∈ ss, s ≠ [] := fun s hs e => by have h1 := (h.gd s hs).2; rw [e] at h1; have := h.hr; simp at h1; omega
theorem SpR.row {a r : Nat} {ss row : List Spot} (h : SpR a r ss) (hr : Rising ss row) : RowOk r row where
  hr := h.hr
  rm := fun s hs => ⟨⟨a, (h.gd s ((hr.2 s).mp hs)).1⟩, (h.gd s ((hr.2 s).mp hs)).2⟩
  pw := hr.1
  ne := fun e => by
    obtain ⟨s, l, e2⟩ := List.exists_cons_of_ne_nil h.ne
    have := (hr.2 s).mpr (by rw [e2]; simp)
    rw [e] at this
    simp at this
theorem slt_nodup {row : List Spot} (h : row.Pairwise sLt) : row.Nodup := h.imp fun {a b} hab e => by rw [e] at hab; exact sLt_irr _ hab
theorem SpR.rlen {a r : Nat} {ss row : List Spot} (h : SpR a r ss) (hr : Rising ss row) : row.length ≤ ss.length := (slt_nodup hr.1).length_le_of_subset fun s hs => (hr.2 s).mp hs
noncomputable def P_corners : Pr := fun ds A => ∃ (x : PyData) (a r : Nat) (ss row : List Spot), ds = [x] ∧ itemsOf x = some (ss.map frs) ∧ SpR a r ss ∧ Rising ss row ∧ A (.ok (.tuple ((bodyS row).map frs)))
noncomputable def t_corners_round (K : Fg) : TS := (tSeq (tAsg (tCall (spW0 K P_rising) [] E0 (tCons (tVar 0) tNil)) (gName 1))
  (tSeq (tIfS (tOr (tTest (tOp rLtI (tCB (rLenQ K) (tCons (tVar 1) tNil)) (tC (V.int 3)))) (tTest (tOp rEq (tCB (rLenQ K) (tCons (tOp (rIx K) (tVar 1) (tC (V.int 0))) tNil)) (tC (V.int 1))))) (tRet (tIf (tTest (tOp rEq (tCB (rLenQ K) (tCons (tVar 1) tNil)) (tC (V.int 1)))) (tTup (tCons (tOp (rIx K) (tVar 1) (tC (V.int 0))) tNil)) (tTup (tCons (tOp (rIx K) (tVar 1) (tC (V.int 0))) (tCons (tOp (rIx K) (tVar 1) (tUn rNegI (tC (V.int 1)))) tNil))))) tNext)
  (tSeq (tAsg (tCall (spW0 K P_hull) [] E0 (tCons (tVar 1) tNil)) (gName 2))
  (tSeq (tAsg (tCall (spW0 K P_hull) [] E0 (tCons (tRevL K (tVar 1)) tNil)) (gName 3))
  (tRet (tCB (rTupQ K) (tCons (tOp (rCatL K) (tSl (rSlL K) (tVar 2) tNoPart (tPart (tUn rNegI (tC (V.int 1))))) (tSl (rSlL K) (tVar 3) tNoPart (tPart (tUn rNegI (tC (V.int 1)))))) tNil)))))))
-- slots of corners_round: 0 spots, 1 row, 2 below, 3 above
theorem ln_corners_round : ∀ ds A, P_corners ds A → ds.length = 1 := fun ds A h => by obtain ⟨_, _, _, _, _, rfl, _⟩ := h; rfl
theorem two_ends {α : Type} : ∀ {l : List α}, 2 ≤ l.length → ∃ a m b, l = a :: (m ++ [b])
  | [], h => by simp at h
  | [_], h => by simp at h
  | a :: b :: l, _ => ⟨a, (b :: l).dropLast, (b :: l).getLast (by simp), by rw [List.dropLast_concat_getLast]⟩
theorem rd_corners_round {ds A} (h : P_corners ds A) : SW K cs W0 (t_corners_round K) (frame 4 ds) (rts0 A) := qt_of (by simp (disch := with_unfolding_all
  obtain ⟨x, a, r, ss, row, rfl, hx, hs, hr, h⟩ := h
  have R := hs.row hr
  have rl := hs.rlen hr
  have hll := hs.hl
  have grow : ∀ s ∈ row, Gds 900 s ∧ s.length = r := fun s ms => ⟨((hs.gd s ((hr.2 s).mp ms)).1).mono hs.ha, (hs.gd s ((hr.2 s).mp ms)).2⟩
  unfold t_corners_round
  walk_at "w"
  obtain ⟨N, hN, hcb⟩ := hs.hb
  have hha := hs.ha
  refine ⟨x, a, N, ss, row, rfl, hx, hcb, by omega, by omega, hs.nes, by omega, hs.l1, hr, ?_⟩
  walk_at "w"
  have lr := List.length_pos_iff.mpr R.ne
  have fin : (row.length < 3 ∨ r = 1) → EW K cs W0 (tIf (tTest (tOp rEq (tCB (rLenQ K) (tCons (tVar 1) tNil)) (tC (V.int 1)))) (tTup (tCons (tOp (rIx K) (tVar 1) (tC (V.int 0))) tNil)) (tTup (tCons (tOp (rIx K) (tVar 1) (tC (V.int 0))) (tCons (tOp (rIx K) (tVar 1) (tUn rNegI (tC (V.int 1)))) tNil)))) (List.set (frame 4 [x]) 1 (En.d (PyData.list (List.map frs row)))) (fun y => y = .tuple ((bodyS row).map frs)) noX := fun hc => by
    walk_at "wi"
    refine cnd_d (fun h1 => ?_) (fun h1 => ?_)
    · have h1 : row.length = 1 := by rw [List.length_map] at h1; omega
      obtain ⟨s, rfl⟩ := List.length_eq_one_iff.mp h1
      walk_at "wi"
      rfl
    · have h1 : row.length ≠ 1 := by rw [List.length_map] at h1; omega
      obtain ⟨u, m, v, rfl⟩ := two_ends (l := row) (by omega)
      have eb : bodyS (u :: (m ++ [v])) = [u, v] := by
        unfold bodyS
        rw [if_neg h1]
        rcases hc with hc | hc
        · have : m = [] := by
            rw [← List.length_eq_zero_iff]
            simp at hc
            omega
          subst this
          rfl
        · exact ring_line fun s hs => by rw [(grow s hs).2, hc]
      have a1 : atI ((u :: (m ++ [v])).map frs) (-1) = some (frs v) := by
        have : (u :: (m ++ [v])).map frs = (u :: m).map frs ++ [frs v] := by simp
        rw [this]; exact atm (k := 1) (by simp) (by decide) (by simp)
      walk_at "wi"
      refine ⟨_, a1, ?_⟩
      walk_at "wi"
      rw [eb]
      rfl
  walk_at "wi"
  refine cnd_d (fun hc => ?_) (fun hc => ?_)
  · refine cnd_t ?_
    refine sw_ret (ew_mono (fin (.inl (by rw [List.length_map] at hc; omega))) ?_)
    rintro y rfl
    exact h
  have h3 : 3 ≤ row.length := by rw [List.length_map] at hc; omega
  obtain ⟨u, row', erow⟩ := List.exists_cons_of_ne_nil R.ne
  have gu := grow u (by rw [erow]; simp)
  have a0 : atI (row.map frs) 0 = some (frs u) := atI_nat (j := 0) (by rw [erow]; rfl)
  walk_at "wi"
  refine ⟨_, a0, ?_⟩
  walk_at "wi"
  refine cnd_d (fun hc2 => ?_) (fun hc2 => ?_)
  · refine sw_ret (ew_mono (fin (.inr ?_)) ?_)
    · rw [List.length_map, gu.2] at hc2; omega
    · rintro y rfl
      exact h
  have r2 : r = 2 := by
    rw [List.length_map, gu.2] at hc2
    have := hs.hr
    omega
  subst r2
  walk_at "wi"
  refine ⟨row, rfl, grow, by omega, ?_⟩
  walk_at "wi"
  refine ⟨row.reverse, by rw [List.map_reverse], fun s ms => grow s (List.mem_reverse.mp ms), by rw [List.length_reverse]; omega, ?_⟩
  walk_at "wi"
  rw [cutD_init, cutD_init]
  have eb : (bodyS row).map frs = (List.map frs (stackS row).reverse).dropLast ++ (List.map frs (stackS row.reverse).reverse).dropLast := by
    have rt : ∀ st : List Spot, st.tail.reverse = st.reverse.dropLast := fun st => by
      cases st <;> simp
    unfold bodyS ringS
    rw [if_neg (by omega), List.map_append, rt, rt, List.map_dropLast, List.map_dropLast]
  refine ⟨?_, ?_⟩
  · have h4 := stackS_len (row := row)
    have h5 := stackS_len (row := row.reverse)
    rw [List.length_reverse] at h5
    simp
    omega
  · walk_at "wi"
    rw [← eb]
    exact h
  ) only [↓qt_eq])
end


end
section
open PySem PyProof.Rows L2 Evl U.Hull

section
variable {K : Fg} {cs : Cs} {gs : Gs} {φ : PyData → Prop} {A : Rs → Prop} {ε : Xw → Prop} {w : World}
/-! ### the law's own body -/
/-- spots of a room, of numbers of 900 bits -/
noncomputable def S9 (r : Nat) (s : Spot) : Prop := Gds 900 s ∧ s.length = r
theorem S9.two {s : Spot} (h : S9 2 s) : ∃ a b, s = [a, b] ∧ Gd 900 a ∧ Gd 900 b := by
  obtain ⟨a, b, rfl⟩ := two_of h.2
  exact ⟨a, b, rfl, h.1.fst, h.1.snd⟩
theorem S9.one {s : Spot} (h : S9 1 s) : ∃ a, s = [a] ∧ Gd 900 a := by
  obtain ⟨a, rfl⟩ := one_of h.2
  exact ⟨a, rfl, h.1 a (by simp)⟩
noncomputable def co (j : Nat) (p : Pt) : Rat := if j = 0 then p.x else p.y
theorem S9.at_ {r j : Nat} {s : Spot} (h : S9 r s) (hr : r = 1 ∨ r = 2) (hj : j < r) : ∃ p, s[j]? = some p ∧ Gd 900 p ∧ val p = co j (pt s) := qt_of (by simp (disch := with_unfolding_all
  rcases hr with rfl | rfl
  · obtain ⟨a, rfl, ga⟩ := h.one
    obtain rfl : j = 0 := by omega
    exact ⟨a, rfl, ga, rfl⟩
  · obtain ⟨a, b, rfl, ga, gb⟩ := h.two
    match j, hj with
    | 0, _ => exact ⟨a, rfl, ga, rfl⟩
    | 1, _ => exact ⟨b, rfl, gb, rfl⟩
  ) only [↓qt_eq])
theorem c_turn {r : Nat} {s t u : Spot} (hr : r = 1 ∨ r = 2) (hs : S9 r s) (ht : S9 r t) (hu : S9 r u) (h : φ (.int (sgnQ (tn (pt s) (pt t) (pt u))))) : ∃ r, P_turn [frs s, frs t, frs u] r ∧ φ r := qt_of (by simp (disch := with_unfolding_all
  have sz : ∀ {s : Spot}, S9 r s → ∀ p ∈ s, Sz 2000 p := fun h p hp => (h.1 p hp).sz.mono (by decide)
  have ll : ∀ {s : Spot}, S9 r s → s.length = 1 ∨ s.length = 2 := fun h => by rw [h.2]; exact hr
  refine ⟨_, ⟨s, t, u, rfl, ll hs, ll ht, ll hu, sz hs, sz ht, sz hu, rfl⟩, ?_⟩
  rcases hr with rfl | rfl
  · obtain ⟨a, rfl, ga⟩ := hs.one
    obtain ⟨b, rfl, gb⟩ := ht.one
    obtain ⟨c, rfl, gc⟩ := hu.one
    have e1 : detF (homF [a]) (homF [b]) (homF [c]) = 0 := by unfold detF homF; grind
    have e2 : tn (pt [a]) (pt [b]) (pt [c]) = 0 := by unfold tn cr sub pt; grind
    rw [e2] at h
    rw [e1]
    exact h
  · obtain ⟨a, b, rfl, ga, gb⟩ := hs.two
    obtain ⟨c, d, rfl, gc, gd⟩ := ht.two
    obtain ⟨e, f, rfl, ge, gf⟩ := hu.two
    rw [turn_val hs.1 ht.1 hu.1]
    exact h
  ) only [↓qt_eq])
theorem sgnQ_mul2 (x y : Rat) : decide (0 < sgnQ x * sgnQ y) = decide (0 < x * y) := qt_of (by simp (disch := with_unfolding_all
  rcases tri x with hx | hx | hx <;> rcases tri y with hy | hy | hy
  · have h1 := Rat.mul_pos (a := -x) (b := -y) (by grind) (by grind)
    have e1 : sgnQ x = -1 := by unfold sgnQ; rw [if_neg (by grind), if_pos hx]
    have e2 : sgnQ y = -1 := by unfold sgnQ; rw [if_neg (by grind), if_pos hy]
    rw [e1, e2, decide_eq_true (by decide), decide_eq_true (by grind)]
  · rw [hy]; unfold sgnQ; grind
  · have h1 := Rat.mul_pos (a := -x) (b := y) (by grind) (by grind)
    have e1 : sgnQ x = -1 := by unfold sgnQ; rw [if_neg (by grind), if_pos hx]
    have e2 : sgnQ y = 1 := by unfold sgnQ; rw [if_pos hy]
    rw [e1, e2, decide_eq_false (by decide), decide_eq_false (by grind)]
  · rw [hx]; unfold sgnQ; grind
  · rw [hx]; unfold sgnQ; grind
  · rw [hx]; unfold sgnQ; grind
  · have h1 := Rat.mul_pos (a := x) (b := -y) (by grind) (by grind)
    have e1 : sgnQ x = 1 := by unfold sgnQ; rw [if_pos hx]
    have e2 : sgnQ y = -1 := by unfold sgnQ; rw [if_neg (by grind), if_pos hy]
    rw [e1, e2, decide_eq_false (by decide), decide_eq_false (by grind)]
  · rw [hy]; unfold sgnQ; grind
  · have h1 := Rat.mul_pos hx hy
    have e1 : sgnQ x = 1 := by unfold sgnQ; rw [if_pos hx]
    have e2 : sgnQ y = 1 := by unfold sgnQ; rw [if_pos hy]
    rw [e1, e2, decide_eq_true (by decide), decide_eq_true (by grind)]
  ) only [↓qt_eq])
theorem sgnQ_eq0 (x : Rat) : decide (sgnQ x = 0) = decide (x = 0) := qt_of (by simp (disch := with_unfolding_all
  rcases tri x with h | h | h
  · have e : sgnQ x = -1 := by unfold sgnQ; rw [if_neg (by grind), if_pos h]
    rw [e, decide_eq_false (by decide), decide_eq_false (by grind)]
  · rw [h]; rfl
  · have e : sgnQ x = 1 := by unfold sgnQ; rw [if_pos h]
    rw [e, decide_eq_false (by decide), decide_eq_false (by grind)]
  ) only [↓qt_eq])
theorem sgnQ_m (x y : Rat) : CMulW (sgnQ x) (sgnQ y) := qt_of (by simp (disch := with_unfolding_all
  have h : ∀ x : Rat, sgnQ x = 1 ∨ sgnQ x = -1 ∨ sgnQ x = 0 := fun x => by
    unfold sgnQ
    split
    · simp
    · split <;> simp
  have b : ∀ x : Rat, Bd 2 (sgnQ x) := fun x => by rcases h x with h | h | h <;> rw [h] <;> (unfold Bd; decide)
  exact (b x).cm (b y) (by decide)
  ) only [↓qt_eq])
noncomputable instance (h r q : Pt) : Decidable (Btw h r q) := by unfold Btw; exact inferInstance
noncomputable def P_lbetween : Pr := fun ds A => ∃ (r : Nat) (s t u : Spot), ds = [frs s, frs t, frs u] ∧ (r = 1 ∨ r = 2) ∧ S9 r s ∧ S9 r t ∧ S9 r u ∧ A (.ok (.bool (decide (Btw (pt s) (pt t) (pt u)))))
noncomputable def t__law_between (K : Fg) : TS := (tSeq (tFor (iRng1 (tCons (tCB (rLenQ K) (tCons (tVar 2) tNil)) tNil)) (gName 3) (tIfS (tTest (tOp rGtI (tOp rMulI (tCall (spP K P_cmp) [] E0 (tCons (tOp (rIx K) (tVar 2) (tVar 3)) (tCons (tOp (rIx K) (tVar 0) (tVar 3)) tNil))) (tCall (spP K P_cmp) [] E0 (tCons (tOp (rIx K) (tVar 2) (tVar 3)) (tCons (tOp (rIx K) (tVar 1) (tVar 3)) tNil)))) (tC (V.int 0)))) (tRet (tC (V.bl false))) tNext))
  (tRet (tOp rEq (tCall (spP K P_turn) [] E0 (tCons (tVar 0) (tCons (tVar 1) (tCons (tVar 2) tNil)))) (tC (V.int 0)))))
-- slots of _law_between: 0 _law_one, 1 _law_two, 2 _law_spot_here, 3 _law_at
theorem ln__law_between : ∀ ds A, P_lbetween ds A → ds.length = 3 := fun ds A h => by obtain ⟨_, _, _, _, rfl, _⟩ := h; rfl
theorem cmp_val {n m : Nat} {p q : Fr} (hp : Gd n p) (hq : Gd m q) : cmpF p q = sgnQ (val p - val q) := by rw [← ord_val hp hq, ord_sgn]; rfl
theorem rd__law_between {ds A} (h : P_lbetween ds A) : SW K cs W0 (t__law_between K) (frame 4 ds) (rts0 A) := qt_of (by simp (disch := with_unfolding_all
  obtain ⟨r, s, t, u, rfl, hr, hs, ht, hu, h⟩ := h
  have lu : (((u.map fr).length : Nat) : Int).toNat = r := by rw [List.length_map, hu.2]; rfl
  unfold t__law_between
  walk_at "w"
  rw [lu]
  refine forN (fun i G => (∃ e3, G = [.d (frs s), .d (frs t), .d (frs u), e3]) ∧ ∀ j, j < i → (co j (pt u) - co j (pt s)) * (co j (pt u) - co j (pt t)) ≤ 0) ⟨⟨_, rfl⟩, fun j hj => absurd hj (by omega)⟩ ?_ ?_
  · rintro i _ hi ⟨⟨e3, rfl⟩, hI⟩
    obtain ⟨a, s1, ga, va⟩ := hs.at_ hr hi
    obtain ⟨b, t1, gb, vb⟩ := ht.at_ hr hi
    obtain ⟨c, u1, gc, vc⟩ := hu.at_ hr hi
    walk_at "w"
    refine ⟨_, atI_nat (by rw [List.getElem?_map, u1]; rfl), ?_⟩
    walk_at "w"
    refine ⟨_, atI_nat (by rw [List.getElem?_map, s1]; rfl), ?_⟩
    walk_at "w"
    refine ⟨_, atI_nat (by rw [List.getElem?_map, u1]; rfl), ?_⟩
    walk_at "w"
    refine ⟨_, atI_nat (by rw [List.getElem?_map, t1]; rfl), ?_⟩
    walk_at "w"
    rw [cmp_val gc ga, cmp_val gc gb]
    refine ⟨sgnQ_m _ _, ?_⟩
    walk_at "w"
    rw [sgnQ_mul2, va, vb, vc]
    refine cnd_d (fun hc => ?_) (fun hc => ?_)
    · walk_at "w"
      have nb : ¬ Btw (pt s) (pt t) (pt u) := fun hb => by
        unfold Btw at hb
        unfold co at hc
        split at hc
        · exact absurd hb.1 (by grind)
        · exact absurd hb.2.1 (by grind)
      rw [decide_eq_false nb] at h
      exact h
    · walk_at "w"
      refine ⟨⟨_, rfl⟩, fun j hj => ?_⟩
      by_cases e : j = i
      · rw [e]; grind
      · exact hI j (by omega)
  · rintro _ ⟨⟨e3, rfl⟩, hI⟩
    walk_at "w"
    refine c_turn hr hs ht hu ?_
    walk_at "w"
    rw [sgnQ_eq0]
    have eq : decide (tn (pt s) (pt t) (pt u) = 0) = decide (Btw (pt s) (pt t) (pt u)) := by
      congr 1
      refine propext ⟨fun z => ⟨?_, ?_, z⟩, fun z => z.2.2⟩
      · exact hI 0 (by omega)
      · rcases hr with rfl | rfl
        · obtain ⟨a, rfl, _⟩ := hs.one
          obtain ⟨b, rfl, _⟩ := ht.one
          obtain ⟨c, rfl, _⟩ := hu.one
          unfold pt
          grind
        · exact hI 1 (by omega)
    rw [eq]
    exact h
  ) only [↓qt_eq])
/-! what follows a corner -/
noncomputable instance (P : List Pt) (h q : Pt) : Decidable (Nx P h q) := by unfold Nx; exact inferInstance
noncomputable def P_lnext : Pr := fun ds A => ∃ (r : Nat) (row : List Spot) (c v : Spot), ds = [.list (row.map frs), frs c] ∧ RowOk r row ∧ (∀ s ∈ row, S9 r s) ∧ row.length ≤ 10000 ∧ c ∈ row ∧ v ∈ row ∧ ((row = [c] ∧ v = c) ∨ (Nx (row.map pt) (pt c) (pt v) ∧ ∀ q, Nx (row.map pt) (pt c) q → q = pt v)) ∧ A (.ok (frs v))
noncomputable def t__law_next (K : Fg) : TS := (tSeq (tFor (iList K (tVar 0)) (gName 2) (tIfS (tAnd (tTest (tOp (rNeD K) (tVar 2) (tVar 1))) (tB (tCB (rAll K) (tCons (tLc (iList K (tVar 0)) (gName 3) tYes (tOp rGeI (tCall (spP K P_turn) [] E0 (tCons (tVar 1) (tCons (tVar 2) (tCons (tVar 3) tNil)))) (tC (V.int 0))) [3]) tNil)))) (tIfS (tNot (tB (tCB (rAny K) (tCons (tLc (iList K (tVar 0)) (gName 3) tYes (tAndV (tOp (rNeD K) (tVar 3) (tVar 2)) (tCall (spW0 K P_lbetween) [] E0 (tCons (tVar 1) (tCons (tVar 3) (tCons (tVar 2) tNil))))) [3]) tNil)))) (tRet (tVar 2)) tNext) tNext))
  (tRet (tVar 1)))
-- slots of _law_next: 0 _law_row, 1 _law_here, 2 _law_spot_here, 3 _law_one
theorem ln__law_next : ∀ ds A, P_lnext ds A → ds.length = 2 := fun ds A h => by obtain ⟨_, _, _, _, rfl, _⟩ := h; rfl
theorem eqv_frs' (s t : Spot) : PyData.eqv (frs s) (frs t) = decide (s = t) := eqv_frs s t
theorem rd__law_next {ds A} (h : P_lnext ds A) : SW K cs W0 (t__law_next K) (frame 4 ds) (rts0 A) := qt_of (by simp (disch := with_unfolding_all
  obtain ⟨r, row, c, v, rfl, R, hs, hl, mc, mv, hv, h⟩ := h
  have shp : ∀ s ∈ row, SeqAt.shaped (frs s) = true := fun s ms => sh_frs (by have := (hs s ms).2; have := R.hr; omega)
  unfold t__law_next
  walk_at "w"
  refine forP (fun pre G => (∃ e2, G = [.d (.list (row.map frs)), .d (frs c), e2, .un]) ∧ ∀ s ∈ pre, ¬ Nx (row.map pt) (pt c) (pt s)) ⟨⟨_, rfl⟩, by simp⟩ ?_ ?_
  · rintro pre s post _ e ⟨⟨e2, rfl⟩, hI⟩
    have ms : s ∈ row := by rw [e]; simp
    have goon : ¬ Nx (row.map pt) (pt c) (pt s) → (∃ e2', [.d (.list (row.map frs)), .d (frs c), .d (frs s), .un] = [En.d (.list (row.map frs)), .d (frs c), e2', .un]) ∧ ∀ t ∈ pre ++ [s], ¬ Nx (row.map pt) (pt c) (pt t) := fun hn => ⟨⟨_, rfl⟩, fun t ht => by
      rcases List.mem_append.mp ht with ht | ht
      · exact hI t ht
      · rw [List.mem_singleton.mp ht]; exact hn⟩
    walk_at "w"
    refine ⟨shp s ms, shp c mc, ?_⟩
    walk_at "w"
    rw [eqv_frs']
    refine cnd_nd (fun hne => ?_) (fun he => ?_)
    · walk_at "w"
      refine lcM (f := frs) (fun t => .bool (decide (0 ≤ tn (pt c) (pt s) (pt t)))) (by omega) (unk1 rfl) (fun t mt => ?_) ?_
      · walk_at "w"
        refine c_turn R.hr (hs c mc) (hs s ms) (hs t mt) ?_
        walk_at "w"
        rw [sgnQ_ge]
      refine ⟨_, rfl, ?_⟩
      walk_at "w"
      refine cnd_b (fun hall => ?_) (fun hall => ?_)
      · walk_at "w"
        refine lcM (f := frs) (fun t => .bool (decide (t ≠ s ∧ Btw (pt c) (pt t) (pt s)))) (by omega) (unk1 rfl) (fun t mt => ?_) ?_
        · walk_at "w"
          refine ⟨shp t mt, shp s ms, ?_⟩
          walk_at "w"
          rw [eqv_frs']
          refine cnd_nd (fun hn => ?_) (fun hn => ?_)
          · walk_at "w"
            refine ⟨r, c, t, s, rfl, R.hr, hs c mc, hs t mt, hs s ms, ?_⟩
            walk_at "w"
            simp [hn]
          · simp [hn]
        refine ⟨_, rfl, ?_⟩
        walk_at "w"
        have nxs : (!row.any fun t => decide (t ≠ s ∧ Btw (pt c) (pt t) (pt s))) = true → Nx (row.map pt) (pt c) (pt s) := fun hany => by
          rw [List.all_eq_true] at hall
          refine ⟨List.mem_map.mpr ⟨s, ms, rfl⟩, fun z => hne (R.inj ms mc z), fun p hp => ?_, fun p hp hps hb => ?_⟩
          · obtain ⟨t, mt, rfl⟩ := List.mem_map.mp hp
            simpa using hall t mt
          · obtain ⟨t, mt, rfl⟩ := List.mem_map.mp hp
            have : (row.any fun t => decide (t ≠ s ∧ Btw (pt c) (pt t) (pt s))) = true := List.any_eq_true.mpr ⟨t, mt, by simp; exact ⟨fun z => hps (by rw [z]), hb⟩⟩
            rw [this] at hany
            cases hany
        refine cnd_b (fun hany => ?_) (fun hany => ?_)
        · have nx := nxs hany
          walk_at "w"
          have ev : s = v := by
            rcases hv with ⟨hv, _⟩ | ⟨_, hv⟩
            · rw [hv] at ms; rw [hv] at mv
              rw [List.mem_singleton.mp ms, List.mem_singleton.mp mv]
            · exact R.inj ms mv (hv _ nx)
          rw [ev]
          exact h
        · walk_at "w"
          refine goon fun nx => ?_
          have : (row.any fun t => decide (t ≠ s ∧ Btw (pt c) (pt t) (pt s))) = true := by
            cases hq : (row.any fun t => decide (t ≠ s ∧ Btw (pt c) (pt t) (pt s))) with
            | true => rfl
            | false => rw [hq] at hany; cases hany
          obtain ⟨t, mt, ht⟩ := List.any_eq_true.mp this
          have ht := of_decide_eq_true ht
          exact nx.2.2.2 (pt t) (List.mem_map.mpr ⟨t, mt, rfl⟩) (fun z => ht.1 (R.inj mt ms z)) ht.2
      · walk_at "w"
        refine goon fun nx => ?_
        have : (row.all fun t => decide (0 ≤ tn (pt c) (pt s) (pt t))) = true := List.all_eq_true.mpr fun t mt => decide_eq_true (nx.2.2.1 _ (List.mem_map.mpr ⟨t, mt, rfl⟩))
        rw [this] at hall
        cases hall
    · refine cnd_f ?_
      walk_at "w"
      exact goon fun nx => nx.2.1 (by rw [he])
  · rintro _ ⟨⟨e2, rfl⟩, hI⟩
    walk_at "w"
    have ev : v = c := by
      rcases hv with ⟨_, hv⟩ | ⟨hv, _⟩
      · exact hv
      · exact absurd hv (hI v mv)
    rw [ev] at h
    exact h
  ) only [↓qt_eq])
end


end
section
open PySem PyProof.Rows L2 Evl U.Hull

section
variable {K : Fg} {cs : Cs} {gs : Gs} {φ : PyData → Prop} {A : Rs → Prop} {ε : Xw → Prop} {w : World}
noncomputable def t__law_body (K : Fg) : TS := (tSeq (tAsg (tCall (spW0 K P_lrising) [] E0 (tCons (tVar 0) tNil)) (gName 1))
  (tSeq (tAsg (tLst (tCons (tOp (rIx K) (tVar 1) (tC (V.int 0))) tNil)) (gName 2))
  (tSeq (tFor (iRng1 (tCons (tCB (rLenQ K) (tCons (tVar 1) tNil)) tNil)) (gName 3) (tSeq (tAsg (tCall (spW0 K P_lnext) [] E0 (tCons (tVar 1) (tCons (tOp (rIx K) (tVar 2) (tUn rNegI (tC (V.int 1)))) tNil))) (gName 4))
  (tSeq (tIfS (tTest (tOp (rEqD K) (tVar 4) (tOp (rIx K) (tVar 2) (tC (V.int 0))))) (tRet (tCB (rTupQ K) (tCons (tVar 2) tNil))) tNext)
  (tDrop (tBM K "list" rAppend (tVar 2) (tCons (tVar 4) tNil))))))
  (tRet (tCB (rTupQ K) (tCons (tVar 2) tNil))))))
-- slots of _law_body: 0 _law_spots_here, 1 _law_row, 2 _law_found, 3 _law_step, 4 _law_spot_here
theorem ln__law_body : ∀ ds A, P_corners ds A → ds.length = 1 := ln_corners_round
theorem rd__law_body {ds A} (h : P_corners ds A) : SW K cs W0 (t__law_body K) (frame 5 ds) (rts0 A) := qt_of (by simp (disch := with_unfolding_all
  obtain ⟨x, a, r, ss, row, rfl, hx, hs, hr, h⟩ := h
  have R := hs.row hr
  have rl := hs.rlen hr
  have hll := hs.hl
  have B := body_ok R
  generalize bodyS row = bs at B h
  have blen := B.len
  have grow : ∀ s ∈ row, S9 r s := fun s ms => ⟨((hs.gd s ((hr.2 s).mp ms)).1).mono hs.ha, (hs.gd s ((hr.2 s).mp ms)).2⟩
  obtain ⟨u, row', erow⟩ := List.exists_cons_of_ne_nil R.ne
  have hu : bs.head? = some u := by rw [B.hd, erow]; rfl
  obtain ⟨bs', ebs⟩ : ∃ bs', bs = u :: bs' := by
    cases bs with
    | nil => simp at hu
    | cons b bs' => simp at hu; exact ⟨bs', by rw [hu]⟩
  have shp : ∀ s ∈ row, SeqAt.shaped (frs s) = true := fun s ms => sh_frs (by have := (grow s ms).2; have := R.hr; omega)
  unfold t__law_body
  walk_at "w"
  obtain ⟨N, hN, hcb⟩ := hs.hb
  have hha := hs.ha
  refine ⟨x, a, N, ss, row, rfl, hx, hcb, by omega, by omega, by omega, hs.nes, hs.hl, hs.l1, hr, ?_⟩
  refine rE_fl ?_
  show SW _ _ _ _ _ _
  refine sw_seq (sw_asgF (ef_lst1 ?_))
  walk_at "w"
  refine ⟨_, atI_nat (j := 0) (by rw [erow]; rfl), ?_⟩
  walk_at "w"
  have lrow : (((row.map frs).length : Nat) : Int).toNat = row.length := by rw [List.length_map]; rfl
  rw [lrow]
  refine forN (fun i G => ∃ e3 e4, G = [.d x, .d (.list (row.map frs)), .ow (ol ((bs.take (i + 1)).map frs)), e3, e4] ∧ i < bs.length) ⟨_, _, by rw [ebs]; rfl, by rw [ebs]; exact Nat.zero_lt_succ _⟩ ?_ ?_
  · rintro i _ hi ⟨e3, e4, rfl, hib⟩
    have hc : bs[i]? = some bs[i] := List.getElem?_eq_getElem hib
    generalize bs[i] = c at hc
    have mc : c ∈ row := B.sub c (List.mem_of_getElem? hc)
    obtain ⟨v, hv, hnx⟩ := B.nx i c hc
    have mv : v ∈ row := B.sub v (List.mem_of_getElem? hv)
    have tk : bs.take (i + 1) = bs.take i ++ [c] := by rw [List.take_succ, hc]; rfl
    walk_at "w"
    refine ⟨frs c, ?_, ?_⟩
    · rw [tk, List.map_append]
      exact atm (k := 1) (by simp) (by decide) (by simp)
    walk_at "w"
    refine ⟨r, row, c, v, rfl, R, grow, by omega, mc, mv, hnx, ?_⟩
    walk_at "wi"
    refine ⟨frs u, atI_nat (j := 0) (by rw [ebs]; rfl), ?_⟩
    refine ⟨shp v mv, shp u (by rw [erow]; simp), ?_⟩
    walk_at "wi"
    rw [eqv_frs']
    refine cnd_d (fun he => ?_) (fun hne => ?_)
    · walk_at "wi"
      have e1 : i + 1 = bs.length := by
        refine Classical.byContradiction fun hn => ?_
        rw [Nat.mod_eq_of_lt (by omega)] at hv
        rw [he] at hv
        have h0 : bs[0]? = some u := by rw [ebs]; rfl
        have := (List.getElem?_inj (by omega) B.nd).mp (hv.trans h0.symm)
        omega
      rw [e1, List.take_length]
      exact h
    · walk_at "wi"
      refine sw_app (xs := (bs.take (i + 1)).map frs) rfl (by rw [List.length_map, List.length_take]; omega) ?_
      walk_at "wi"
      have e1 : i + 1 < bs.length := by
        refine Classical.byContradiction fun hn => hne ?_
        have e2 : i + 1 = bs.length := by omega
        rw [e2, Nat.mod_self, ebs] at hv
        simpa using hv.symm
      rw [Nat.mod_eq_of_lt e1] at hv
      have tk2 : (bs.take (i + 1 + 1)).map frs = (bs.take (i + 1)).map frs ++ [frs v] := by
        rw [List.take_succ (i := i + 1), hv, List.map_append]; rfl
      rw [tk2]
      exact ⟨_, _, rfl, e1⟩
  · rintro _ ⟨e3, e4, rfl, hib⟩
    omega
  ) only [↓qt_eq])
end


end
section
open PySem PyProof.Rows L2 Evl U.Hull

section
variable {K : Fg} {cs : Cs} {gs : Gs} {φ : PyData → Prop} {A : Rs → Prop} {ε : Xw → Prop} {w : World}
/-! ### drawn rooms and spots -/
noncomputable def P_room : Pr := fun ds A => ds = [] ∧ ∀ r : Nat, r = 1 ∨ r = 2 → A (.ok (.int r))
noncomputable def t__law_room (K : Fg) : TS := (tRet (tOp rSubI (tC (V.int 2)) (tCB rInt1 (tCons (tOp rEq (tCall (spB K P_pull) [] E0 (tCons (tVar 0) (tCons (tC (V.int 3)) tNil))) (tC (V.int 0))) tNil))))
-- slots of _law_room: 0 _law_bag_here
theorem ln__law_room : ∀ ds A, P_room ds A → ds.length + 1 = 1 := fun ds A h => by obtain ⟨rfl, _⟩ := h; rfl
theorem rd__law_room {ds A} (h : P_room ds A) : SW K cs W0 (t__law_room K) (.bag :: frame 0 ds) (rts0 A) := qt_of (by simp (disch := with_unfolding_all
  obtain ⟨rfl, h⟩ := h
  unfold t__law_room
  walk_at "w"
  rename_i v h0 h1
  by_cases e : v = 0
  · rw [if_pos (by simpa using e)]
    exact h 1 (.inl rfl)
  · rw [if_neg (by simpa using e)]
    exact h 2 (.inr rfl)
  ) only [↓qt_eq])
theorem c_room (h : ∀ r : Nat, r = 1 ∨ r = 2 → φ (.int r)) : P_room [] (rE φ ε) := ⟨rfl, h⟩
/-- spots of a room -/
noncomputable def Sps (a r : Nat) (ss : List Spot) : Prop := ∀ s ∈ ss, Gds a s ∧ s.length = r
theorem Sps.mono {a b r : Nat} {ss : List Spot} (h : Sps a r ss) (l : a ≤ b) : Sps b r ss := fun s hs => ⟨(h s hs).1.mono l, (h s hs).2⟩
theorem Sps.snoc {a r : Nat} {ss : List Spot} {s : Spot} (h : Sps a r ss) (g : Gds a s) (l : s.length = r) : Sps a r (ss ++ [s]) := fun t ht => by
  rcases List.mem_append.mp ht with ht | ht
  · exact h t ht
  · rw [List.mem_singleton.mp ht]; exact ⟨g, l⟩
theorem along_gd {n m : Nat} {k : Fr} {ps qs : List Fr} (hk : Gd m k) (hp : Gds n ps) (hq : Gds n qs) : Gds (n + (m + (n + n + 1)) + 1) (alongF k ps qs) := fun x hx => by
  unfold alongF at hx
  obtain ⟨i, hi, rfl⟩ := List.getElem_of_mem hx
  simp at hi ⊢
  exact (hp _ (List.getElem_mem _)).add (hk.mul ((hq _ (List.getElem_mem _)).sub (hp _ (List.getElem_mem _))))
theorem along_len {k : Fr} {ps qs : List Fr} (h : ps.length = qs.length) : (alongF k ps qs).length = ps.length := by unfold alongF; rw [List.length_zipWith]; omega
theorem c_along {n m : Nat} {ps qs : List Fr} {k : Fr} (hp : Gds n ps) (hq : Gds n qs) (hk : Gd m k) (hl : ps.length = qs.length) (hn : ps.length ≤ 1000) (h1 : n ≤ 400) (h2 : m ≤ 400) (h : φ (frs (alongF k ps qs))) : ∃ r, P_along [frs ps, frs qs, fr k] r ∧ φ r := ⟨_, ⟨ps, qs, k, rfl, hl, hn, hp.mono h1, hq.mono h1, hk.mono h2, rfl⟩, h⟩
theorem atI_in {α : Type} {f : α → PyData} {xs : List α} {j : Int} (h0 : 0 ≤ j) (h1 : j < xs.length) : ∃ s ∈ xs, atI (xs.map f) j = some (f s) := by
  obtain ⟨k, rfl⟩ := Int.eq_ofNat_of_zero_le h0
  have hk : k < xs.length := by omega
  exact ⟨xs[k], List.getElem_mem _, atI_nat (by rw [List.getElem?_map, List.getElem?_eq_getElem hk]; rfl)⟩
theorem partOf_gd3 (s : Bag) : Gd 3 (partOf s) := qt_of (by simp (disch := with_unfolding_all
  obtain ⟨z1, z2⟩ := pullV_range s (n := 13) (by decide)
  obtain ⟨y1, y2⟩ := pullV_range (pullS s 13) (n := 4) (by decide)
  have hm := menu_mem (l := [1, 1, 2, 3]) y1 y2
  unfold partOf
  generalize menu _ _ = m at hm
  generalize pullV s 13 = y at *
  simp only [List.mem_cons, List.mem_singleton, List.not_mem_nil, or_false] at hm
  exact Gd.frac (by unfold Bd; omega) (by unfold Bd; omega) (by omega)
  ) only [↓qt_eq])
theorem c_spot3 {n : Int} (h0 : 0 ≤ n) (hl : n ≤ 1000) (h : ∀ ps : List Fr, Gds 3 ps → ps.length = n.toNat → φ (frs ps)) (s : Bag) (ok : s.ok) : ∃ r s', P_spot s [.int n] r s' ∧ s'.ok ∧ φ r := by
  refine ⟨_, _, ⟨n.toNat, by rw [Int.toNat_of_nonneg h0], by omega, rfl, rfl⟩, itB_ok partS_ok ok _, ?_⟩
  unfold spotOf
  rw [drawn_fr]
  exact h _ (drawFr_gd partOf_gd3 _ _) (drawFr_len _ _ _ _)
noncomputable def P_lspots : Pr := fun ds A => ∃ r m : Nat, ds = [.int r, .int m] ∧ (r = 1 ∨ r = 2) ∧ 1 ≤ m ∧ m ≤ 1000 ∧ ∀ ss, Sps 14 r ss → 1 ≤ ss.length → ss.length ≤ m + 1 → A (.fl (ol (ss.map frs)))
noncomputable def t__law_spots (K : Fg) : TS := (tSeq (tAsg (tOp rAddI (tC (V.int 1)) (tCall (spB K P_pull) [] E0 (tCons (tVar 0) (tCons (tVar 2) tNil)))) (gName 3))
  (tSeq (tAsg (tLc (iRng1 (tCons (tVar 3) tNil)) (gName 8) tYes (tCall (spB K P_spot) [] E0 (tCons (tVar 0) (tCons (tVar 1) tNil))) [8]) (gName 4))
  (tSeq (tAsg (tCall (spB K P_pull) [] E0 (tCons (tVar 0) (tCons (tC (V.int 6)) tNil))) (gName 5))
  (tSeq (tIfS (tTest (tOp rEq (tVar 5) (tC (V.int 0)))) (tDrop (tBM K "list" rAppend (tVar 4) (tCons (tOp (rIx K) (tVar 4) (tCall (spB K P_pull) [] E0 (tCons (tVar 0) (tCons (tVar 3) tNil)))) tNil))) tNext)
  (tSeq (tIfS (tTest (tOp rEq (tVar 5) (tC (V.int 1)))) (tSeq (tAsg (tOp (rIx K) (tVar 4) (tC (V.int 0))) (gName 6))
  (tSeq (tAsg (tOp (rIx K) (tVar 4) (tUn rNegI (tC (V.int 1)))) (gName 7))
  (tDrop (tBM K "list" rAppend (tVar 4) (tCons (tCall (spP K P_along) [] E0 (tCons (tVar 6) (tCons (tVar 7) (tCons (tCall (spP K P_frac) [] E0 (tCons (tCall (spB K P_pull) [] E0 (tCons (tVar 0) (tCons (tC (V.int 5)) tNil))) (tCons (tC (V.int 4)) tNil))) tNil)))) tNil))))) tNext)
  (tRet (tVar 4)))))))
-- slots of _law_spots: 0 _law_bag_here, 1 _law_rank, 2 _law_limit, 3 _law_many, 4 _law_found, 5 _law_kind, 6 _law_one, 7 _law_two, 8 _law_at
theorem ln__law_spots : ∀ ds A, P_lspots ds A → ds.length + 1 = 3 := fun ds A h => by obtain ⟨_, _, rfl, _⟩ := h; rfl
theorem rd__law_spots {ds A} (h : P_lspots ds A) : SW K cs W0 (t__law_spots K) (.bag :: frame 8 ds) (rts0 A) := qt_of (by simp (disch := with_unfolding_all
  obtain ⟨r, m, rfl, hr, hm, hm2, h⟩ := h
  unfold t__law_spots
  refine sw_seq ?_
  walk_at "s"
  rename_i v v0 v1
  refine sw_seq (sw_asgF (ef_lc ?_))
  walk_at "s"
  refine lcD frs (fun s => Gds 3 s ∧ s.length = r) (by rw [List.length_range]; omega) (unk1 rfl) (fun x mx => ?_) ?_
  · refine gc_name (List.mem_singleton.mpr rfl) ?_
    refine ew_callB (i := 0) rfl (aw_cons (ew_var (i := 1) rfl (aw_nil fun s ok => c_spot3 (by omega) (by omega) (fun ps g l => ?_) s ok)))
    exact ⟨ps, rfl, g, by omega⟩
  intro ss hlen hss
  have h1 : Sps 3 r ss := hss
  rw [List.length_range] at hlen
  have g40 := h1.mono (b := 14) (by decide)
  walk_at "s"
  refine sw_seq ?_
  walk_at "s"
  rename_i kd k0 k1
  refine sw_cut (fun G => ∃ ts : List Spot, Sps 14 r ts ∧ 1 ≤ ts.length ∧ (kd = 0 ∨ Sps 3 r ts) ∧ ts.length ≤ m + (if kd = 0 then 1 else 0) ∧ G = [.bag, .d (.int r), .d (.int m), .d (.int (1 + v)), .ow (ol (ts.map frs)), .d (.int kd), .un, .un, .un]) ?_ ?_
  · walk_at "s"
    refine cnd_d (fun hk => ?_) (fun hk => ?_)
    · refine sw_app rfl (by rw [List.length_map]; omega) ?_
      walk_at "s"
      rename_i p p0 p1
      obtain ⟨s, ms, es⟩ := atI_in (f := frs) (xs := ss) p0 (by omega)
      refine ⟨_, es, ?_⟩
      walk_at "s"
      refine ⟨ss ++ [s], g40.snoc (g40 s ms).1 (g40 s ms).2, by simp, .inl hk, by rw [if_pos hk]; simp; omega, ?_⟩
      rw [List.map_append]; rfl
    · walk_at "s"
      exact ⟨ss, g40, by omega, .inr h1, by omega, rfl⟩
  rintro _ ⟨ts, g40, t1, h1, tl, rfl⟩
  refine sw_cut (fun G => ∃ (ts : List Spot) (e6 e7 : En), Sps 14 r ts ∧ 1 ≤ ts.length ∧ ts.length ≤ m + 1 ∧ G = [.bag, .d (.int r), .d (.int m), .d (.int (1 + v)), .ow (ol (ts.map frs)), .d (.int kd), e6, e7, .un]) ?_ ?_
  · walk_at "s"
    refine cnd_d (fun hk => ?_) (fun hk => ?_)
    · have h1 := h1.resolve_left (by omega)
      rw [if_neg (by omega)] at tl
      obtain ⟨s0, ms0, es0⟩ := atI_in (f := frs) (xs := ts) (j := 0) (by decide) (by omega)
      obtain ⟨ts', sl, ets⟩ : ∃ ts' sl, ts = ts' ++ [sl] := ⟨ts.dropLast, ts.getLast (by intro z; rw [z] at t1; simp at t1), (List.dropLast_concat_getLast _).symm⟩
      have msl : sl ∈ ts := by rw [ets]; simp
      have esl : atI (ts.map frs) (-1) = some (frs sl) := by rw [ets, List.map_append]; exact atm (k := 1) (by simp) (by decide) (by simp)
      refine sw_seq ?_
      walk_at "s"
      refine ⟨_, es0, ?_⟩
      walk_at "s"
      refine sw_seq ?_
      walk_at "s"
      refine ⟨_, esl, ?_⟩
      walk_at "s"
      rename_i p p0 p1
      have bp : Bd 3 p := by unfold Bd; omega
      have gk : Gd 3 (fracF p 4) := Gd.frac bp (by unfold Bd; decide) (by decide)
      refine c_frac (bp.mono (by decide)) (Bd.mono (n := 3) (by unfold Bd; decide) (by decide)) ?_
      walk_at "s"
      have e1 := (h1 s0 ms0).2
      have e2 := (h1 sl msl).2
      refine c_along (h1 s0 ms0).1 (h1 sl msl).1 gk (by rw [e1, e2]) (by omega) (by decide) (by decide) ?_
      walk_at "s"
      refine ⟨ts ++ [alongF (fracF p 4) s0 sl], .d (frs s0), .d (frs sl), g40.snoc ((along_gd gk (h1 s0 ms0).1 (h1 sl msl).1).mono (by decide)) (by rw [along_len (by rw [e1, e2]), e1]), by simp, by simp; omega, ?_⟩
      rw [List.map_append]; rfl
    · walk_at "s"
      exact ⟨ts, _, _, g40, t1, by split at tl <;> omega, rfl⟩
  rintro _ ⟨ts, e6, e7, g, t1, tl, rfl⟩
  refine sw_retO (i := 4) rfl ?_
  exact h ts g t1 tl
  ) only [↓qt_eq])
-- slots of _law_wide_spots: 0 _law_bag_here, 1 _law_rank, 2 _law_limit, 3 _law_found, 4 _law_k, 5 _law_at
end


end
section
open PySem PyProof.Rows L2 Evl U.Hull

section
variable {K : Fg} {cs : Cs} {gs : Gs} {φ : PyData → Prop} {A : Rs → Prop} {ε : Xw → Prop} {w : World}
/-! ### sides, land -/
noncomputable abbrev bod (bs : List Spot) : PyData := .tuple (bs.map frs)
-- slots of sides_of: 0 body, 1 at, 2 corner
-- slots of size_of: 0 body
-- slots of land_of: 0 body, 1 found, 2 x, 3 y, 4 right, 5 up
end


end
section
open PySem PyProof.Rows L2 Evl U.Hull

section
variable {K : Fg} {cs : Cs} {gs : Gs} {φ : PyData → Prop} {A : Rs → Prop} {ε : Xw → Prop} {w : World}
-- slots of _law_three_land: 0 _law_one, 1 _law_two, 2 _law_three, 3 _law_first, 4 _law_second, 5 _law_third
/-! what is needed of bodies -/
theorem sps_body {a r : Nat} {ss row : List Spot} (h : SpR a r ss) (hr : Rising ss row) : Sps a r (bodyS row) ∧ 1 ≤ (bodyS row).length ∧ (bodyS row).length ≤ ss.length ∧ (r = 1 → (bodyS row).length ≤ 2) := qt_of (by simp (disch := with_unfolding_all
  have R := h.row hr
  have B := body_ok R
  have l1 := B.len
  have l2 := h.rlen hr
  refine ⟨fun s hs => h.gd s ((hr.2 s).mp (B.sub s hs)), ?_, by omega, fun e => ?_⟩
  · cases hb : bodyS row with
    | nil =>
      have := B.hd
      rw [hb] at this
      obtain ⟨u, row', erow⟩ := List.exists_cons_of_ne_nil R.ne
      rw [erow] at this
      simp at this
    | cons a l => simp
  · unfold bodyS
    split
    · omega
    · rename_i hl
      have := List.length_pos_iff.mpr R.ne
      obtain ⟨u, m, v, rfl⟩ := two_ends (l := row) (by omega)
      rw [ring_line fun s hs => by rw [(R.rm s hs).len, e]]
      simp
  ) only [↓qt_eq])
theorem rising_ex {a r : Nat} {ss : List Spot} (h : SpR a r ss) : ∃ row, Rising ss row := by
  obtain ⟨N, hN, hcb⟩ := h.hb
  exact ⟨_, risL_rising hcb.spc.1 hcb.spc.2.1⟩
theorem c_corners {a r : Nat} {ss : List Spot} {x : PyData} (h : SpR a r ss) (hx : itemsOf x = some (ss.map frs)) (k : ∀ row, Rising ss row → φ (bod (bodyS row))) : P_corners [x] (rE φ ε) := by
  obtain ⟨row, hr⟩ := rising_ex h
  exact ⟨x, a, r, ss, row, rfl, hx, h, hr, k row hr⟩
theorem spr_of {a r : Nat} {ss : List Spot} (hr : r = 1 ∨ r = 2) (h : Sps a r ss) (h1 : 1 ≤ ss.length) (ha : a ≤ 900) (hl : ss.length ≤ 10000) (hb : 1 + ss.length * (2 * a) + a ≤ 4000) : SpR a r ss := ⟨hr, h, fun e => by rw [e] at h1; simp at h1, ha, hl, _, by omega, CbB.of (r := 2) fun s hs => ⟨(h s hs).1, by have := (h s hs).2; omega⟩⟩
end


end
section
open PySem PyProof.Rows L2 Evl U.Hull

section
variable {K : Fg} {cs : Cs} {gs : Gs} {φ : PyData → Prop} {A : Rs → Prop} {ε : Xw → Prop} {w : World}
/-! ### bodies in order, faces -/
noncomputable abbrev Body := List Spot
/-- bodies of one room, of bounded numbers -/
structure Bds (a r : Nat) (bs : List Body) : Prop where
  hr : r = 1 ∨ r = 2
  gd : ∀ b ∈ bs, Sps a r b ∧ 1 ≤ b.length ∧ b.length ≤ 1000
noncomputable def fl (b : Body) : Spot := b.flatten
/-- in order, each once -/
noncomputable def InOrd (bs ys : List Body) : Prop := ys.Pairwise (fun a b => sLt (fl a) (fl b)) ∧ ∀ b, b ∈ ys ↔ b ∈ bs
theorem inOrd_uniq {bs ys zs : List Body} (h1 : InOrd bs ys) (h2 : InOrd bs zs) : ys = zs := pw_uniq (fun x => sLt_irr (fl x)) (fun x y => sLt_asy (fl x) (fl y)) h1.1 h2.1 fun s => (h1.2 s).trans (h2.2 s).symm
theorem fl_inj {r : Nat} (hr : 0 < r) : ∀ {b c : Body}, (∀ s ∈ b, s.length = r) → (∀ s ∈ c, s.length = r) → fl b = fl c → b = c
  | [], [], _, _, _ => rfl
  | [], s :: c, _, h, e => by
    have l := h s (by simp)
    have e' : s ++ c.flatten = [] := e.symm
    rw [(List.append_eq_nil_iff.mp e').1] at l
    simp at l
    omega
  | s :: b, [], h, _, e => by
    have l := h s (by simp)
    have e' : s ++ b.flatten = [] := e
    rw [(List.append_eq_nil_iff.mp e').1] at l
    simp at l
    omega
  | s :: b, t :: c, h1, h2, e => by
    have l1 := h1 s (by simp)
    have l2 := h2 t (by simp)
    unfold fl at e
    rw [List.flatten_cons, List.flatten_cons] at e
    obtain ⟨e1, e2⟩ := List.append_inj e (by rw [l1, l2])
    rw [e1, fl_inj hr (fun s hs => h1 s (by simp [hs])) (fun s hs => h2 s (by simp [hs])) e2]
theorem Bds.inj {a r : Nat} {bs : List Body} (h : Bds a r bs) {b c : Body} (hb : b ∈ bs) (hc : c ∈ bs) (e : fl b = fl c) : b = c := fl_inj (r := r) (by have := h.hr; omega) (fun s hs => ((h.gd b hb).1 s hs).2) (fun s hs => ((h.gd c hc).1 s hs).2) e
theorem ky_fl (c : Int) (b : Body) : b.flatMap (ky c) = ky c (fl b) := by
  unfold fl
  induction b with
  | nil => rfl
  | cons s b ih => rw [List.flatMap_cons, ih, List.flatten_cons]; unfold ky; rw [List.map_append]
theorem spc_fl {c : Int} {b : Body} {a : Nat} (h : ∀ s ∈ b, Gds a s) (d : ∀ s ∈ b, ∀ f ∈ s, f.2 ∣ c) : SpC c (fl b) := ⟨⟨a, fun f hf => by
  obtain ⟨s, hs, hf⟩ := List.mem_flatten.mp hf
  exact h s hs f hf⟩, fun f hf => by
  obtain ⟨s, hs, hf⟩ := List.mem_flatten.mp hf
  exact d s hs f hf⟩
/-- the bodies by their keys, in order -/
noncomputable def ordL (c : Int) (bs : List Body) : List Body := (srtI ((amap [] bs (fun b => ky c (fl b)) id).map (·.1))).map fun j => (aget (amap [] bs (fun b => ky c (fl b)) id) j).getD []
theorem ord_get {c : Int} {bs : List Body} {j : List Int} (hj : j ∈ srtI ((amap [] bs (fun b => ky c (fl b)) id).map (·.1))) : ∃ b ∈ bs, ky c (fl b) = j ∧ aget (amap [] bs (fun b => ky c (fl b)) id) j = some b := by
  obtain ⟨x, hx, e⟩ := amap_mem.mp (srtI_mem.mp hj)
  rcases amap_get (fun b => ky c (fl b)) id j bs [] with h | ⟨h1, h2⟩
  · exact h
  · exact absurd e (h1 x hx)
theorem ordL_ok {c : Int} {bs : List Body} (hc : 0 < c) (hs : ∀ b ∈ bs, SpC c (fl b)) (inj : ∀ b ∈ bs, ∀ b' ∈ bs, fl b = fl b' → b = b') : InOrd bs (ordL c bs) := by
  have hn : ((amap [] bs (fun b => ky c (fl b)) id).map (·.1)).Nodup := amap_keys _ _ _ _ List.nodup_nil
  refine ⟨?_, fun b => ?_⟩
  · unfold ordL
    rw [List.pairwise_map]
    refine (srtI_lt hn).imp_of_mem fun {x y} hx hy h => ?_
    obtain ⟨s, ms, e1, e2⟩ := ord_get hx
    obtain ⟨t, mt, e3, e4⟩ := ord_get hy
    rw [e2, e4]
    rw [← e1, ← e3] at h
    exact (ky_slt hc (hs s ms) (hs t mt)).mp h
  · unfold ordL
    constructor
    · intro h
      obtain ⟨j, hj, rfl⟩ := List.mem_map.mp h
      obtain ⟨t, mt, e3, e4⟩ := ord_get hj
      rw [e4]; exact mt
    · intro h
      have hj : ky c (fl b) ∈ srtI ((amap [] bs (fun b => ky c (fl b)) id).map (·.1)) := srtI_mem.mpr (amap_mem.mpr ⟨b, h, rfl⟩)
      refine List.mem_map.mpr ⟨ky c (fl b), hj, ?_⟩
      obtain ⟨t, mt, e3, e4⟩ := ord_get hj
      rw [e4]
      exact inj t mt b h (ky_inj hc (hs t mt) (hs b h) e3)
/-- all corners -/
noncomputable def crn (bs : List Body) : List Spot := bs.flatten
noncomputable def P_inOrder : Pr := fun ds A => ∃ (a r N : Nat) (bs ys : List Body), ds = [.list (bs.map bod)] ∧ Bds a r bs ∧ CbB a N (crn bs) ∧ a ≤ 4000 ∧ N ≤ 7000 ∧ bs.length ≤ 10000 ∧ InOrd bs ys ∧ A (.fl (ol (ys.map bod)))
noncomputable def t_in_order (K : Fg) (w : World) : TS := (tSeq (tAsg (tCall (spW0 K P_cb) [] E0 (tCons (tLcN (iList K (tVar 0)) (gName 3) tYes (tClause (iTup K (tVar 3)) (gName 5) tYes (tElt (tVar 5)) [5]) [3, 5]) tNil)) (gName 1))
  (tSeq (tAsg (tDct0 w) (gName 2))
  (tSeq (tFor (iList K (tVar 0)) (gName 3) (tSeq (tAsg (tCB (rTupQ K) (tCons (tLcN (iTup K (tVar 3)) (gName 5) tYes (tClause (iList K (tCall (spW0 K P_wr) [] E0 (tCons (tVar 5) (tCons (tVar 1) tNil)))) (gName 6) tYes (tElt (tVar 6)) [6]) [5, 6]) tNil)) (gName 4))
  (tAsg (tVar 3) (gSub (tVar 2) (tVar 4) (rDset K w)))))
  (tRet (tLc (iList K (tCB (rSrtD K w) (tCons (tVar 2) tNil))) (gName 4) tYes (tOp (rDx K w) (tVar 2) (tVar 4)) [4])))))
-- slots of in_order: 0 bodies, 1 common, 2 by_worth, 3 body, 4 key, 5 corner, 6 number
theorem ln_in_order : ∀ ds A, P_inOrder ds A → ds.length = 1 := fun ds A h => by obtain ⟨_, _, _, _, _, rfl, _⟩ := h; rfl
theorem crn_map (bs : List Body) : (bs.flatMap fun b => b.map frs) = (crn bs).map frs := by
  unfold crn
  induction bs with
  | nil => rfl
  | cons b bs ih => rw [List.flatMap_cons, ih, List.flatten_cons, List.map_append]
theorem mem_crn {bs : List Body} {b : Body} {s : Spot} (hb : b ∈ bs) (hs : s ∈ b) : s ∈ crn bs := List.mem_flatten.mpr ⟨b, hb, hs⟩
theorem crn_len {bs : List Body} (h : ∀ b ∈ bs, b.length ≤ 1000) : (crn bs).length ≤ bs.length * 1000 := qt_of (by simp (disch := with_unfolding_all
  unfold crn
  induction bs with
  | nil => simp
  | cons b bs ih =>
    have h1 := h b (by simp)
    have h2 := ih fun c hc => h c (by simp [hc])
    rw [List.flatten_cons, List.length_append, List.length_cons, Nat.succ_mul]
    omega
  ) only [↓qt_eq])
theorem amap_snoc {κ β γ : Type} [DecidableEq κ] {m : List (κ × β)} {xs : List γ} {x : γ} {k : γ → κ} {v : γ → β} : amap m (xs ++ [x]) k v = aput (amap m xs k v) (k x) (v x) := by unfold amap; rw [List.foldl_append]; rfl
theorem aput_len {κ β : Type} [DecidableEq κ] {m : List (κ × β)} {k : κ} {v : β} : (aput m k v).length ≤ m.length + 1 := by
  unfold aput
  split
  · rw [List.length_map]; omega
  · rw [List.length_append]; simp
theorem amap_len {κ β γ : Type} [DecidableEq κ] {k : γ → κ} {v : γ → β} : ∀ {xs : List γ} {m : List (κ × β)}, (amap m xs k v).length ≤ m.length + xs.length
  | [], m => Nat.le_refl _
  | x :: xs, m => by
    have h1 := amap_len (k := k) (v := v) (xs := xs) (m := aput m (k x) (v x))
    have h2 := aput_len (m := m) (k := k x) (v := v x)
    show (amap (aput m (k x) (v x)) xs k v).length ≤ _
    rw [List.length_cons]
    omega
theorem rd_in_order {ds A} (h : P_inOrder ds A) : SW K cs W0 (t_in_order K w) (frame 7 ds) (rts0 A) := qt_of (by simp (disch := with_unfolding_all
  obtain ⟨a, r, N, bs, ys, rfl, hb, hcb, ha, hN, hl, ho, h⟩ := h
  have hbl : ∀ b ∈ bs, b.length ≤ 1000 := fun b mb => (hb.gd b mb).2.2
  have hcl := crn_len hbl
  obtain ⟨c1, c2, c3⟩ := hcb.spc
  have hspc : ∀ b ∈ bs, SpC (cb 1 (crn bs)) (fl b) := fun b mb => spc_fl (fun s hs => hcb.gd s (mem_crn mb hs)) fun s hs => (c2 s (mem_crn mb hs)).dv
  unfold t_in_order
  walk_at "s"
  refine sw_seq ?_
  walk_at "s"
  refine clM 1000 (fun b => b.map frs) (by omega) (unk2 rfl rfl) (fun b mb => ?_) ?_
  · walk_at "s"
    refine clE (f := frs) frs (by have := hbl b mb; omega) (unk1 rfl) (fun s ms => ?_) rfl
    walk_at "s"
    rfl
  rw [crn_map]
  walk_at "s"
  refine ⟨_, a, N, crn bs, rfl, rfl, hcb, ha, by omega, ?_⟩
  generalize cb 1 (crn bs) = c at c1 c2 c3 hspc
  walk_at "s"
  refine sw_seq (sw_asgF (ef_dct0 ?_))
  walk_at "s"
  refine sw_seq ?_
  walk_at "s"
  refine forP (fun pre G => ∃ ep e3 e4, G = [.d (.list (bs.map bod)), .d (.int c), .ow (od w ep (encM inz bod (amap [] pre (fun b => ky c (fl b)) id))), e3, e4, .un, .un]) ⟨_, _, _, rfl⟩ ?_ ?_
  · rintro pre b post _ e ⟨ep, e3, e4, rfl⟩
    have mb : b ∈ bs := by rw [e]; simp
    have lb := hbl b mb
    have lpre : pre.length + 1 ≤ bs.length := by rw [e]; simp
    walk_at "s"
    refine sw_seq ?_
    walk_at "s"
    refine clM (f := frs) 1000 (fun s => inz (ky c s)) (by omega) (unk2 rfl rfl) (fun s ms => ?_) ?_
    · have ls : s.length ≤ 1000 := by have := ((hb.gd b mb).1 s ms).2; have := hb.hr; omega
      walk_at "s"
      refine c_wr ((hb.gd b mb).1 s ms).1 ha ls (c3.mono (by omega)) ?_
      walk_at "s"
      refine clE (f := PyData.int) PyData.int (by rw [List.length_map]; omega) (unk1 rfl) (fun i mi => ?_) rfl
      walk_at "s"
      rfl
    have ek : (b.flatMap fun s => inz (ky c s)) = inz (ky c (fl b)) := by
      rw [← ky_fl]
      unfold inz
      rw [List.map_flatMap]
    rw [ek]
    walk_at "s"
    case hl =>
      unfold encM
      rw [List.length_map]
      refine Nat.lt_of_le_of_lt amap_len ?_
      simp
      omega
    case h =>
      walk_at "s"
      refine ⟨kg_ints _, fun ep' => ?_⟩
      have e5 : putK (encM inz bod (amap [] pre (fun b => ky c (fl b)) id)) (inz (ky c (fl b))) (bod b) = encM inz bod (amap [] (pre ++ [b]) (fun b => ky c (fl b)) id) := by
        rw [amap_snoc]
        exact put_enc (ek := inz) (ev := bod) kk_inj _ (ky c (fl b)) b
      show lp _ _ _
      walk_at "s"
      rw [← e5]
      exact ⟨_, _, _, rfl⟩
  · rintro _ ⟨ep, e3, e4, rfl⟩
    have ek : (encM inz bod (amap [] bs (fun b => ky c (fl b)) id)).map (fun q => PyData.tuple q.1) = ((amap [] bs (fun b => ky c (fl b)) id).map (·.1)).map fun j => PyData.tuple (inz j) := by
      unfold encM
      rw [List.map_map, List.map_map]
      rfl
    have en : ∀ j ∈ (amap [] bs (fun b => ky c (fl b)) id).map (·.1), j ≠ [] := fun j hj => by
      obtain ⟨b, mb, rfl⟩ := amap_mem.mp hj
      intro z
      have z := List.map_eq_nil_iff.mp z
      have l1 := (hb.gd b mb).2.1
      cases b with
      | nil => simp at l1
      | cons s b =>
        have l := ((hb.gd _ mb).1 s (by simp)).2
        have hr := hb.hr
        have z' : s ++ b.flatten = [] := z
        rw [(List.append_eq_nil_iff.mp z').1] at l
        simp at l
        omega
    have hlen : (srtI ((amap [] bs (fun b => ky c (fl b)) id).map (·.1))).length ≤ 16000000 := by
      unfold srtI
      rw [List.length_mergeSort, List.length_map]
      refine Nat.le_trans amap_len ?_
      simp
      omega
    refine sq_nx ?_
    refine sw_wk (G1 := [.d (.list (bs.map bod)), .d (.int c), .ow (od w ep (encM inz bod (amap [] bs (fun b => ky c (fl b)) id))), e3, .un, .un, .un]) (.cons (.cons (.cons (.cons (.drop (.cons (.cons .nil))))))) ?_
    refine sw_retF (ef_lc (iw_list (ew_srtD (.inl rfl) (by rw [ek]; exact ok_tups en) ⟨_, rfl, ?_⟩)))
    rw [ek, srt_tups]
    refine lcM (fun j => bod ((aget (amap [] bs (fun b => ky c (fl b)) id) j).getD [])) hlen (unk1 rfl) (fun j mj => ?_) ?_
    · obtain ⟨t, mt, e3, e4⟩ := ord_get mj
      walk_at "s"
      refine ⟨_, bod t, rfl, kg_ints _, ?_, ?_⟩
      · rw [look_enc (ek := inz) kk_inj, e4]; rfl
      · rw [e4]; rfl
    · have e : ys = ordL c bs := inOrd_uniq ho (ordL_ok c1 hspc fun b mb b' mb' e => hb.inj mb mb' e)
      rw [e] at h
      unfold ordL at h
      rw [List.map_map] at h
      exact h
  ) only [↓qt_eq])
end


end
section
open PySem PyProof.Rows L2 Evl U.Hull

section
variable {K : Fg} {cs : Cs} {gs : Gs} {φ : PyData → Prop} {A : Rs → Prop} {ε : Xw → Prop} {w : World}
/-! ### == of data by a type -/
theorem eqv_map {α : Type} [DecidableEq α] {enc : α → PyData} (h : ∀ a b, PyData.eqv (enc a) (enc b) = decide (a = b)) : ∀ xs ys : List α, PyData.eqvAll (xs.map enc) (ys.map enc) = decide (xs = ys)
  | [], [] => rfl
  | [], _ :: _ => rfl
  | _ :: _, [] => rfl
  | x :: xs, y :: ys => by
    show (PyData.eqv (enc x) (enc y) && PyData.eqvAll (xs.map enc) (ys.map enc)) = _
    rw [h, eqv_map h xs ys]
    by_cases h1 : x = y <;> by_cases h2 : xs = ys <;> simp [h1, h2]
theorem eqv_bod (b c : Body) : PyData.eqv (bod b) (bod c) = decide (b = c) := eqv_map eqv_frs' b c
theorem eqv_intD (i j : Int) : PyData.eqv (.int i) (.int j) = decide (i = j) := by
  show (i == j) = _
  by_cases h : i = j <;> simp [h]
theorem any_enc {α : Type} [DecidableEq α] {enc : α → PyData} (h : ∀ a b, PyData.eqv (enc a) (enc b) = decide (a = b)) (xs : List α) (x : α) [Decidable (x ∈ xs)] : ((xs.map enc).any fun z => PyData.eqv z (enc x)) = decide (x ∈ xs) := qt_of (by simp (disch := with_unfolding_all
  rw [List.any_map]
  have e : (fun z => PyData.eqv z (enc x)) ∘ enc = fun t => decide (t = x) := funext fun t => h t x
  rw [e]
  by_cases hx : x ∈ xs
  · rw [decide_eq_true hx, List.any_eq_true]
    exact ⟨x, hx, by simp⟩
  · rw [decide_eq_false hx, List.any_eq_false]
    intro t ht
    have : t ≠ x := fun z => hx (by rw [← z]; exact ht)
    simpa using this
  ) only [↓qt_eq])
/-! ### keys with places, sorted -/
noncomputable abbrev ki (p : List Int × Nat) : PyData := .tuple [.list (inz p.1), .int (p.2 : Nat)]
noncomputable def kle (a b : List Int × Nat) : Bool := decide (a.1 < b.1 ∨ (a.1 = b.1 ∧ a.2 ≤ b.2))
noncomputable def srtK (xs : List (List Int × Nat)) : List (List Int × Nat) := xs.mergeSort kle
theorem lt_irr (a : List Int) : ¬ a < a := fun h => List.lt_irrefl a h
theorem kle_tr {a b c : List Int × Nat} (h1 : kle a b = true) (h2 : kle b c = true) : kle a c = true := qt_of (by simp (disch := with_unfolding_all
  unfold kle at *
  have h1 := of_decide_eq_true h1
  have h2 := of_decide_eq_true h2
  refine decide_eq_true ?_
  rcases h1 with h1 | ⟨e1, h1⟩
  · rcases h2 with h2 | ⟨e2, h2⟩
    · exact .inl (List.lt_trans h1 h2)
    · exact .inl (by rw [← e2]; exact h1)
  · rcases h2 with h2 | ⟨e2, h2⟩
    · exact .inl (by rw [e1]; exact h2)
    · exact .inr ⟨e1.trans e2, by omega⟩
  ) only [↓qt_eq])
theorem kle_to (a b : List Int × Nat) : (kle a b || kle b a) = true := qt_of (by simp (disch := with_unfolding_all
  unfold kle
  rw [Bool.or_eq_true, decide_eq_true_eq, decide_eq_true_eq]
  by_cases h : a.1 < b.1
  · exact .inl (.inl h)
  · by_cases h2 : b.1 < a.1
    · exact .inr (.inl h2)
    · have e : a.1 = b.1 := List.le_antisymm (List.not_lt.mp h2) (List.not_lt.mp h)
      by_cases h3 : a.2 ≤ b.2
      · exact .inl (.inr ⟨e, h3⟩)
      · exact .inr (.inr ⟨e.symm, by omega⟩)
  ) only [↓qt_eq])
theorem srtK_pw (xs : List (List Int × Nat)) : (srtK xs).Pairwise fun a b => a.1 ≤ b.1 := by
  have := List.pairwise_mergeSort (le := kle) (fun a b c => kle_tr) kle_to xs
  refine this.imp fun {a b} h => ?_
  unfold kle at h
  rcases of_decide_eq_true h with h | ⟨h, _⟩
  · exact List.le_of_lt h
  · rw [h]; exact List.le_refl _
theorem srtK_mem {xs : List (List Int × Nat)} {a : List Int × Nat} : a ∈ srtK xs ↔ a ∈ xs := List.mem_mergeSort
theorem alike_ki (a b : List Int × Nat) : PySem.W.alike (.list (inz a.1)) (.list (inz b.1)) = true := PySem.W.alike_ints a.1 b.1
theorem lt_ki (a b : List Int × Nat) : (!PySem.W.dataLt (ki b) (ki a)) = kle a b := qt_of (by simp (disch := with_unfolding_all
  rw [PySem.W.dataLt_pair (alike_ki b a) (by simp [PySem.W.alike])]
  have e1 : PyData.eqv (.list (inz b.1)) (.list (inz a.1)) = decide (b.1 = a.1) := eqv_map eqv_intD b.1 a.1
  have e2 : PySem.W.dataLt (.list (inz b.1)) (.list (inz a.1)) = decide (b.1 < a.1) := PySem.W.dataLt_ints b.1 a.1
  rw [e1, e2, eqv_intD, PySem.W.dataLt_int]
  unfold kle
  by_cases h : b.1 = a.1
  · rw [if_pos (by simp [h]), h]
    by_cases h2 : b.2 = a.2
    · simp [h2]
    · have : ¬ (b.2 : Int) = a.2 := by omega
      rw [decide_eq_false this, if_neg (by simp)]
      by_cases h3 : (b.2 : Int) < a.2
      · rw [decide_eq_true h3]
        simp [lt_irr]
        omega
      · rw [decide_eq_false h3]
        simp
        omega
  · rw [decide_eq_false h, if_neg (by simp)]
    by_cases h2 : b.1 < a.1
    · rw [decide_eq_true h2, decide_eq_false]
      · rfl
      · rintro (h3 | ⟨h3, _⟩)
        · exact List.lt_asymm h2 h3
        · exact h h3.symm
    · rw [decide_eq_false h2, decide_eq_true]
      · rfl
      · rcases List.le_iff_lt_or_eq.mp (List.not_lt.mp h2) with h3 | h3
        · exact .inl h3
        · exact absurd h3.symm h
  ) only [↓qt_eq])
theorem srt_ki (xs : List (List Int × Nat)) : srtD (xs.map ki) = (srtK xs).map ki := by
  unfold srtD srtK
  refine (List.map_mergeSort fun a _ b _ => ?_).symm
  exact (lt_ki a b).symm
theorem ok_ki (xs : List (List Int × Nat)) : SrtOk (xs.map ki) := by
  refine ⟨fun d hd d' hd' => ?_, .inl fun d hd => ?_, fun d hd => ?_⟩
  · obtain ⟨a, _, rfl⟩ := List.mem_map.mp hd
    obtain ⟨b, _, rfl⟩ := List.mem_map.mp hd'
    show PySem.W.alikeAll [.list (inz a.1), .int a.2] [.list (inz b.1), .int b.2] = true
    rw [PySem.W.alikeAll, alike_ki]
    simp [PySem.W.alike, PySem.W.alikeAll]
  · obtain ⟨a, ha, rfl⟩ := List.mem_map.mp hd
    exact ⟨_, _, rfl⟩
  · obtain ⟨a, _, rfl⟩ := List.mem_map.mp hd
    show (PyData.tuple [.list (inz a.1), .int a.2]).depth ≤ 60
    simp only [PyData.depth, PyData.depthAll, depth_ints]
    decide
/-! ### the law's own order of bodies -/
-- slots of _law_in_order: 0 _law_bodies, 1 _law_limit, 2 _law_body_here, 3 _law_keys, 4 _law_found, 5 _law_key_here, 6 _law_at
end


end
section
open PySem PyProof.Rows L2 Evl U.Hull

section
variable {K : Fg} {cs : Cs} {gs : Gs} {φ : PyData → Prop} {A : Rs → Prop} {ε : Xw → Prop} {w : World}
/-! ### faces -/
-- slots of faces: 0 body, 1 found, 2 corner, 3 side
theorem inOrd_ex {a r N : Nat} {bs : List Body} (h : Bds a r bs) (hc : CbB a N (crn bs)) : ∃ ys, InOrd bs ys := by
  obtain ⟨c1, c2, c3⟩ := hc.spc
  exact ⟨_, ordL_ok c1 (fun b mb => spc_fl (fun s hs => hc.gd s (mem_crn mb hs)) fun s hs => (c2 s (mem_crn mb hs)).dv) fun b mb b' mb' e => h.inj mb mb' e⟩
end


end
section
open PySem PyProof.Rows L2 Evl U.Hull

section
variable {K : Fg} {cs : Cs} {gs : Gs} {φ : PyData → Prop} {A : Rs → Prop} {ε : Xw → Prop} {w : World} {W : WX}
/-! ### the body of some spots -/
noncomputable def tupLen : PyData → Int
  | .tuple xs => xs.length
  | _ => 0
noncomputable def badSpots (x : PyData) : Bool := match itemsOf x with
  | none => true
  | some [] => true
  | some (f :: rest) => !isSpot (tupLen f) f || !rest.all (isSpot (tupLen f))
noncomputable abbrev xw (c : Str) : Xw := ⟨c, [("word", .str c)]⟩
noncomputable def P_bodyOf : Pr := fun ds A => ∃ x : PyData, ds = [x] ∧ (∀ xs, itemsOf x = some xs → xs.length ≤ 10000) ∧ ((badSpots x = true ∧ A (.er (xw "BadSpot"))) ∨ ∃ (a r : Nat) (ss : List Spot), itemsOf x = some (ss.map frs) ∧ SpR a r ss ∧ ∀ row, Rising ss row → A (.ok (bod (bodyS row))))
noncomputable def t_body_of (K : Fg) (cs : Cs) (W : WX) : TS := (tSeq (tIfS (tOr (tNot (tB (tCB (rIsiT K) (tCons (tVar 0) (tCons (tTup (tCons (tC (V.ty "list")) (tCons (tC (V.ty "tuple")) tNil))) tNil))))) (tTest (tOp rEq (tCB (rLenQ K) (tCons (tVar 0) tNil)) (tC (V.int 0))))) (tRaiseX (cs "BadSpot") (spIn K ["word"] (gCw "BadSpot")) [] tNil W) tNext)
  (tSeq (tAsg (tVar 0) (gStarE K (gCons (gName 2) (gCons (gName 3) gNil))))
  (tSeq (tAsg (tIf (tB (tCB (rIsi K) (tCons (tVar 2) (tCons (tC (V.ty "tuple")) tNil)))) (tCB (rLenQ K) (tCons (tVar 2) tNil)) (tC (V.int 0))) (gName 1))
  (tSeq (tIfS (tOr (tNot (tB (tCallN 1 1 (spP K P_isSpot) (fun vs zs => vs ++ zs) E0 (tCons (tVar 2) tNil) (tCons (tVar 1) tNil)))) (tNot (tB (tCB (rAll K) (tCons (tLc (iList K (tVar 3)) (gName 4) tYes (tCallN 1 1 (spP K P_isSpot) (fun vs zs => vs ++ zs) E0 (tCons (tVar 4) tNil) (tCons (tVar 1) tNil)) [4]) tNil))))) (tRaiseX (cs "BadSpot") (spIn K ["word"] (gCw "BadSpot")) [] tNil W) tNext)
  (tRet (tCall (spW0 K P_corners) [] E0 (tCons (tCB (rListQ K) (tCons (tVar 0) tNil)) tNil)))))))
-- slots of body_of: 0 spots, 1 room, 2 first, 3 rest, 4 spot
theorem ln_body_of : ∀ ds A, P_bodyOf ds A → ds.length = 1 := fun ds A h => by obtain ⟨_, rfl, _⟩ := h; rfl
theorem isPart_gd {n : Nat} {f : Fr} (h : Gd n f) : isPart (fr f) = true := by
  show isPart2 (.int f.1) (.int f.2) = true
  show (decide (0 < f.2) && decide (gI f.1 f.2 = 1)) = true
  rw [decide_eq_true h.pos, decide_eq_true h.low]
  rfl
theorem isSpot_ok {a r : Nat} {s : Spot} (hr : r = 1 ∨ r = 2) (hs : Gds a s) (hl : s.length = r) : isSpot (r : Int) (frs s) = true := qt_of (by simp (disch := with_unfolding_all
  show ([1, 2].contains (r : Int) && (decide (((s.map fr).length : Int) = r) && (s.map fr).all isPart)) = true
  have e1 : ([1, 2] : List Int).contains (r : Int) = true := by rcases hr with rfl | rfl <;> rfl
  have e2 : (s.map fr).all isPart = true := List.all_eq_true.mpr fun x hx => by
    obtain ⟨f, hf, rfl⟩ := List.mem_map.mp hx
    exact isPart_gd (hs f hf)
  rw [e1, e2, List.length_map, hl]
  simp
  ) only [↓qt_eq])
theorem good_spots {a r : Nat} {ss : List Spot} {x : PyData} (h : SpR a r ss) (hx : itemsOf x = some (ss.map frs)) : badSpots x = false := qt_of (by simp (disch := with_unfolding_all
  obtain ⟨s, ss', e⟩ := List.exists_cons_of_ne_nil h.ne
  unfold badSpots
  rw [hx, e]
  have hs := h.gd s (by rw [e]; simp)
  have et : tupLen (frs s) = (r : Int) := by show ((s.map fr).length : Int) = r; rw [List.length_map, hs.2]
  show (!isSpot (tupLen (frs s)) (frs s) || !(ss'.map frs).all (isSpot (tupLen (frs s)))) = false
  rw [et, isSpot_ok h.hr hs.1 hs.2]
  have : (ss'.map frs).all (isSpot (r : Int)) = true := List.all_eq_true.mpr fun x hx => by
    obtain ⟨t, ht, rfl⟩ := List.mem_map.mp hx
    have ht' := h.gd t (by rw [e]; simp [ht])
    exact isSpot_ok h.hr ht'.1 ht'.2
  rw [this]
  rfl
  ) only [↓qt_eq])
theorem items_lt (x : PyData) : (isLst x || isTup x) = (itemsOf x).isSome := by cases x <;> rfl
theorem c_isSpot {x : PyData} {n : Int} (h : φ (.bool (isSpot n x))) : ∃ r, P_isSpot [x, .int n] r ∧ φ r := ⟨_, ⟨x, n, rfl, rfl⟩, h⟩
theorem rd_body_of {ds A} (cf : ClsF K cs "BadSpot" ["word"]) (h : P_bodyOf ds A) (W : WX) : SW K cs W (t_body_of K cs W) (frame 5 ds) (rts A) := qt_of (by simp (disch := with_unfolding_all
  obtain ⟨x, rfl, hl, h⟩ := h
  have bad : badSpots x = true → A (.er (xw "BadSpot")) := fun hb => by
    rcases h with ⟨_, h⟩ | ⟨a, r, ss, hx, hs, _⟩
    · exact h
    · rw [good_spots hs hx] at hb; cases hb
  unfold t_body_of
  refine sw_seq ?_
  walk_at "s"
  refine ⟨_, _, kit_lst x, kit_tup x, ?_⟩
  rw [items_lt]
  walk_at "s"
  cases hx : itemsOf x with
  | none =>
    refine cnd_nf ?_
    refine cnd_t ?_
    refine sw_raise0 cf rfl ?_
    exact bad (by unfold badSpots; rw [hx])
  | some xs =>
    have hl := hl xs hx
    refine cnd_nt ?_
    walk_at "s"
    refine ⟨_, _, rfl, hx, ?_⟩
    walk_at "s"
    cases xs with
    | nil =>
      refine cnd_yes rfl ?_
      refine sw_raise0 cf rfl ?_
      exact bad (by unfold badSpots; rw [hx])
    | cons f rest =>
      refine cnd_no (by simp; omega) ?_
      walk_at "s"
      refine sw_seq ?_
      walk_at "s"
      refine gw_starE hx (by simp at hl; omega) ?_
      walk_at "s"
      have eb : badSpots x = (!isSpot (tupLen f) f || !rest.all (isSpot (tupLen f))) := by unfold badSpots; rw [hx]
      refine sw_cut (fun G => G = [.d x, .d (.int (tupLen f)), .d f, .d (.list rest), .un]) ?_ ?_
      · walk_at "s"
        refine ⟨_, kit_tup f, ?_⟩
        walk_at "s"
        cases ht : isTup f with
        | true =>
          refine cnd_t ?_
          cases f <;> first | cases ht | skip
          walk_at "s"
          rfl
        | false =>
          refine cnd_f ?_
          walk_at "s"
          have : tupLen f = 0 := by cases f <;> first | rfl | cases ht
          rw [this]
          rfl
      rintro _ rfl
      refine sw_seq ?_
      walk_at "s"
      refine ⟨rfl, rfl, c_isSpot ?_⟩
      walk_at "s"
      refine cnd_b (fun h1 => ?_) (fun h1 => ?_)
      · refine cnd_t ?_
        refine sw_raise0 cf rfl ?_
        exact bad (by rw [eb, h1]; rfl)
      walk_at "s"
      have em : rest = rest.map id := by simp
      rw [em]
      refine lcM (f := id) (fun y => .bool (isSpot (tupLen f) y)) (by simp at hl; omega) (unk1 rfl) (fun y my => ?_) ?_
      · walk_at "s"
        exact ⟨rfl, rfl, c_isSpot rfl⟩
      walk_at "s"
      refine cnd_b (fun h2 => ?_) (fun h2 => ?_)
      · refine sw_raise0 cf rfl ?_
        exact bad (by rw [eb, h2, Bool.or_true])
      have hgood : badSpots x = false := by rw [eb, h1, h2]; rfl
      walk_at "s"
      refine ⟨_, _, rfl, hx, ?_⟩
      walk_at "s"
      rcases h with ⟨hb, _⟩ | ⟨a, r, ss, hx', hs, h⟩
      · rw [hgood] at hb; cases hb
      · rw [hx] at hx'
        rw [Option.some.inj hx']
        refine c_corners hs rfl fun row hrow => ?_
        exact h row hrow
  ) only [↓qt_eq])
/-! ### lots -/
noncomputable abbrev Row := Int × Body
noncomputable abbrev rw' (p : Row) : PyData := .tuple [.int p.1, bod p.2]
noncomputable abbrev lotD (r : Nat) (rows : List Row) : PyData := .tuple [.int r, .tuple (rows.map rw')]
noncomputable def sm (n : Int) : Bool := decide (-1000000000000000000 ≤ n) && decide (n ≤ 1000000000000000000)
noncomputable def smBody (b : Body) : Bool := b.all fun s => s.all fun f => sm f.1 && sm f.2
noncomputable def smRow (p : Row) : Bool := sm p.1 && smBody p.2
noncomputable def P_small : Pr := fun ds A => ∃ n l : Int, ds = [.int n, .int l] ∧ A (.ok (.bool (decide (-l ≤ n) && decide (n ≤ l))))
noncomputable def t_is_small (K : Fg) : TS := (tRet (tChain rLeI rLeI (tUn rNegI (tVar 1)) (tVar 0) (tVar 1)))
-- slots of is_small: 0 number, 1 limit
theorem ln_is_small : ∀ ds A, P_small ds A → ds.length = 2 := fun ds A h => by obtain ⟨_, _, rfl, _⟩ := h; rfl
theorem rd_is_small {ds A} (h : P_small ds A) : SW K cs W0 (t_is_small K) (frame 2 ds) (rts0 A) := qt_of (by simp (disch := with_unfolding_all
  obtain ⟨n, l, rfl, h⟩ := h
  unfold t_is_small
  walk_at "s"
  refine cnd_d (fun h1 => ?_) (fun h1 => ?_)
  · walk_at "s"
    rw [decide_eq_true h1] at h
    exact h
  · rw [decide_eq_false h1] at h
    exact h
  ) only [↓qt_eq])
theorem ew_small {G : Gam} {te : TE} {W : WX} (h : EW K cs W te G (fun x => ∃ n, x = .int n ∧ φ (.bool (sm n))) ε) : EW K cs W (tCall (spW0 K P_small) [V.int 1000000000000000000] E0 (tCons te tNil)) G φ ε :=
  ew_call0 (des := [.int 1000000000000000000]) (fun _ => .cons (.int _) .nil) (aw_cons (ew_mono h fun x ⟨n, e, p⟩ => aw_nil (by rw [e]; exact ⟨n, _, rfl, p⟩)))
noncomputable def P_bounded : Pr := fun ds A => ∃ (r : Nat) (rows : List Row), ds = [lotD r rows] ∧ rows.length ≤ 100000 ∧ (∀ p ∈ rows, p.2.length ≤ 1000 ∧ ∀ s ∈ p.2, s.length ≤ 2) ∧ (2000 < rows.length → A (.er (xw "TooMany"))) ∧ (rows.length ≤ 2000 → rows.all smRow = true → A (.ok (lotD r rows))) ∧ (rows.length ≤ 2000 → rows.all smRow = false → A (.er (xw "TooGreat")))
noncomputable def t_bounded (K : Fg) (cs : Cs) (W : WX) : TS := (tSeq (tIfS (tTest (tOp rGtI (tCB (rLenQ K) (tCons (tOp (rIx K) (tVar 0) (tC (V.int 1))) tNil)) (tC (V.int 2000)))) (tRaiseX (cs "TooMany") (spIn K ["word"] (gCw "TooMany")) [] tNil W) tNext)
  (tSeq (tFor (iTup K (tOp (rIx K) (tVar 0) (tC (V.int 1)))) (gTup K 2 (gCons (gName 1) (gCons (gName 2) gNil))) (tSeq (tIfS (tNot (tB (tCall (spW0 K P_small) [V.int 1000000000000000000] E0 (tCons (tVar 1) tNil)))) (tRaiseX (cs "TooGreat") (spIn K ["word"] (gCw "TooGreat")) [] tNil W) tNext)
  (tIfS (tNot (tB (tCB (rAll K) (tCons (tLcN (iTup K (tVar 2)) (gName 3) tYes (tClause (iTup K (tVar 3)) (gName 4) tYes (tClause (iTup K (tVar 4)) (gName 5) tYes (tElt (tCall (spW0 K P_small) [V.int 1000000000000000000] E0 (tCons (tVar 5) tNil))) [5]) [4, 5]) [3, 4, 5]) tNil)))) (tRaiseX (cs "TooGreat") (spIn K ["word"] (gCw "TooGreat")) [] tNil W) tNext)))
  (tRet (tVar 0))))
-- slots of bounded: 0 lot, 1 weight, 2 body, 3 corner, 4 one, 5 number
theorem ln_bounded : ∀ ds A, P_bounded ds A → ds.length = 1 := fun ds A h => by obtain ⟨_, _, rfl, _⟩ := h; rfl
theorem all_body (b : Body) : (b.flatMap fun s => s.flatMap fun f => [sm f.1, sm f.2]).all id = smBody b := by
  unfold smBody
  rw [List.all_flatMap]
  congr 1
  funext s
  rw [List.all_flatMap]
  congr 1
  funext f
  simp
theorem fr_ints (f : Fr) : [PyData.int f.1, PyData.int f.2] = [f.1, f.2].map PyData.int := rfl
theorem rd_bounded {ds A} (cf1 : ClsF K cs "TooMany" ["word"]) (cf2 : ClsF K cs "TooGreat" ["word"]) (h : P_bounded ds A) (W : WX) : SW K cs W (t_bounded K cs W) (frame 6 ds) (rts A) := qt_of (by simp (disch := with_unfolding_all
  obtain ⟨r, rows, rfl, hl, hb, h1, h2, h3⟩ := h
  unfold t_bounded
  refine sw_seq ?_
  walk_at "s"
  rw [List.length_map]
  refine cnd_d (fun hm => ?_) (fun hm => ?_)
  · refine sw_raise0 cf1 rfl ?_
    exact h1 (by omega)
  walk_at "s"
  refine sw_seq ?_
  walk_at "s"
  refine forP (fun pre G => ∃ e1 e2, G = [.d (lotD r rows), e1, e2, .un, .un, .un] ∧ pre.all smRow = true) ⟨_, _, rfl, rfl⟩ ?_ ?_
  · rintro pre p post _ e ⟨e1, e2, rfl, hp⟩
    have mp : p ∈ rows := by rw [e]; simp
    have bp := hb p mp
    have no : smRow p = false → A (.er (xw "TooGreat")) := fun z => h3 (by omega) (by rw [e, List.all_append, List.all_cons, z]; simp)
    walk_at "s"
    refine sw_seq ?_
    walk_at "s"
    refine ew_small ?_
    walk_at "s"
    refine cnd_b (fun hs => ?_) (fun hs => ?_)
    · refine sw_raise0 cf2 rfl ?_
      exact no (by unfold smRow; cases hq : sm p.1 with | true => rw [hq] at hs; cases hs | false => rfl)
    have hs' : sm p.1 = true := by cases hq : sm p.1 with | true => rfl | false => rw [hq] at hs; cases hs
    walk_at "s"
    refine clM (f := frs) 4 (fun s => s.flatMap fun f => [PyData.bool (sm f.1), PyData.bool (sm f.2)]) (by omega) (unk3 rfl rfl rfl) (fun s ms => ?_) ?_
    · have ls := bp.2 s ms
      walk_at "s"
      refine clM (f := fr) 2 (fun f => [PyData.bool (sm f.1), PyData.bool (sm f.2)]) (by omega) (unk2 rfl rfl) (fun f mf => ?_) rfl
      walk_at "s"
      rw [fr_ints]
      refine clE (f := PyData.int) (fun i => .bool (sm i)) (by simp) (unk1 rfl) (fun i mi => ?_) rfl
      walk_at "s"
      refine ew_small ?_
      walk_at "s"
      rfl
    walk_at "s"
    have eb : (p.2.flatMap fun s => s.flatMap fun f => [PyData.bool (sm f.1), PyData.bool (sm f.2)]) = (p.2.flatMap fun s => s.flatMap fun f => [sm f.1, sm f.2]).map PyData.bool := by
      rw [List.map_flatMap]
      congr 1
      funext s
      rw [List.map_flatMap]
      rfl
    refine ⟨smBody p.2, ⟨_, by rw [eb], (all_body p.2).symm⟩, ?_⟩
    walk_at "s"
    refine cnd_b (fun hq => ?_) (fun hq => ?_)
    · refine sw_raise0 cf2 rfl ?_
      exact no (by unfold smRow; cases hz : smBody p.2 with | true => rw [hz] at hq; cases hq | false => rw [Bool.and_false])
    have hq' : smBody p.2 = true := by cases hz : smBody p.2 with | true => rfl | false => rw [hz] at hq; cases hq
    walk_at "s"
    exact ⟨_, _, rfl, by rw [List.all_append, hp]; simp [smRow, hs', hq']⟩
  · rintro _ ⟨e1, e2, rfl, hp⟩
    walk_at "s"
    exact h2 (by omega) hp
  ) only [↓qt_eq])
end


end
section
open PySem PyProof.Rows L2 Evl U.Hull

section
variable {K : Fg} {cs : Cs} {gs : Gs} {φ : PyData → Prop} {A : Rs → Prop} {ε : Xw → Prop} {w : World} {W : WX}
/-! ### weights gathered -/
noncomputable def wt (rows : List Row) (b : Body) : Int := ((rows.filter fun p => decide (p.2 = b)).map (·.1)).sum
theorem wt_snoc {rows : List Row} {p : Row} {b : Body} : wt (rows ++ [p]) b = wt rows b + (if p.2 = b then p.1 else 0) := by
  unfold wt
  rw [List.filter_append, List.map_append, List.sum_append]
  by_cases h : p.2 = b <;> simp [h]
theorem wt_app {rows qs : List Row} {b : Body} : wt (rows ++ qs) b = wt rows b + wt qs b := by
  unfold wt
  rw [List.filter_append, List.map_append, List.sum_append]
theorem wt_none {rows : List Row} {b : Body} (h : ∀ p ∈ rows, p.2 ≠ b) : wt rows b = 0 := by
  unfold wt
  have : rows.filter (fun p => decide (p.2 = b)) = [] := List.filter_eq_nil_iff.mpr fun p hp => by simpa using h p hp
  rw [this]
  rfl
/-- the lot of some rows -/
noncomputable def IsLot (rows lt : List Row) : Prop := ∃ ys : List Body, lt = ys.map (fun b => (wt rows b, b)) ∧ ys.Pairwise (fun a b => sLt (fl a) (fl b)) ∧ ∀ b, b ∈ ys ↔ wt rows b ≠ 0
theorem isLot_uniq {rows qs lt lt' : List Row} (e : ∀ b, wt rows b = wt qs b) (h1 : IsLot rows lt) (h2 : IsLot qs lt') : lt = lt' := qt_of (by simp (disch := with_unfolding_all
  obtain ⟨ys, rfl, p1, m1⟩ := h1
  obtain ⟨zs, rfl, p2, m2⟩ := h2
  have : ys = zs := pw_uniq (fun x => sLt_irr (fl x)) (fun x y => sLt_asy (fl x) (fl y)) p1 p2 fun b => by rw [m1, m2, e]
  rw [this]
  exact List.map_congr_left fun b _ => by rw [e]
  ) only [↓qt_eq])
noncomputable def gm (rows : List Row) : List (Body × Int) := rows.foldl (fun m p => aput m p.2 ((aget m p.2).getD 0 + p.1)) []
theorem gm_snoc {rows : List Row} {p : Row} : gm (rows ++ [p]) = aput (gm rows) p.2 ((aget (gm rows) p.2).getD 0 + p.1) := by unfold gm; rw [List.foldl_append]; rfl
theorem gm_len {rows : List Row} : (gm rows).length ≤ rows.length := qt_of (by simp (disch := with_unfolding_all
  have key : ∀ (rows : List Row) (m : List (Body × Int)), (rows.foldl (fun m p => aput m p.2 ((aget m p.2).getD 0 + p.1)) m).length ≤ m.length + rows.length := fun rows => by
    induction rows with
    | nil => intro m; exact Nat.le_refl _
    | cons p rows ih =>
      intro m
      have h1 := ih (aput m p.2 ((aget m p.2).getD 0 + p.1))
      have h2 := aput_len (m := m) (k := p.2) (v := (aget m p.2).getD 0 + p.1)
      rw [List.foldl_cons, List.length_cons]
      omega
  have := key rows []
  simpa [gm] using this
  ) only [↓qt_eq])
theorem gm_ok (rows : List Row) : ((gm rows).map (·.1)).Nodup ∧ ∀ b, (aget (gm rows) b = some (wt rows b) ∧ ∃ p ∈ rows, p.2 = b) ∨ (aget (gm rows) b = none ∧ ∀ p ∈ rows, p.2 ≠ b) := qt_of (by simp (disch := with_unfolding_all
  have key : ∀ (rows pre : List Row), (((gm pre).map (·.1)).Nodup ∧ ∀ b, (aget (gm pre) b = some (wt pre b) ∧ ∃ p ∈ pre, p.2 = b) ∨ (aget (gm pre) b = none ∧ ∀ p ∈ pre, p.2 ≠ b)) → (((gm (pre ++ rows)).map (·.1)).Nodup ∧ ∀ b, (aget (gm (pre ++ rows)) b = some (wt (pre ++ rows) b) ∧ ∃ p ∈ pre ++ rows, p.2 = b) ∨ (aget (gm (pre ++ rows)) b = none ∧ ∀ p ∈ pre ++ rows, p.2 ≠ b)) := fun rows => by
    induction rows with
    | nil => intro pre h; rw [List.append_nil]; exact h
    | cons p rows ih =>
      intro pre ⟨h1, h2⟩
      have e : pre ++ p :: rows = (pre ++ [p]) ++ rows := by simp
      rw [e]
      refine ih (pre ++ [p]) ⟨?_, fun b => ?_⟩
      · rw [gm_snoc]; exact aput_keys h1
      · rw [gm_snoc, aget_aput]
        by_cases hb : b = p.2
        · subst hb
          rw [if_pos rfl]
          refine .inl ⟨?_, p, by simp, rfl⟩
          rw [wt_snoc, if_pos rfl]
          rcases h2 p.2 with ⟨k1, _⟩ | ⟨k1, k2⟩
          · rw [k1]; rfl
          · rw [k1, wt_none k2]; rfl
        · rw [if_neg hb]
          rcases h2 b with ⟨k1, q, k2, k3⟩ | ⟨k1, k2⟩
          · refine .inl ⟨?_, q, by simp [k2], k3⟩
            rw [k1, wt_snoc, if_neg fun z => hb z.symm]
            simp
          · refine .inr ⟨k1, fun q hq => ?_⟩
            rcases List.mem_append.mp hq with hq | hq
            · exact k2 q hq
            · rw [List.mem_singleton.mp hq]; exact fun z => hb z.symm
  have := key rows [] ⟨by simp [gm], fun b => .inr ⟨rfl, by simp⟩⟩
  simpa using this
  ) only [↓qt_eq])
noncomputable def left' (rows : List Row) : List Body := ((gm rows).filter fun p => decide (p.2 ≠ 0)).map (·.1)
theorem mem_aget {m : List (Body × Int)} (hn : (m.map (·.1)).Nodup) {p : Body × Int} (h : p ∈ m) : aget m p.1 = some p.2 := qt_of (by simp (disch := with_unfolding_all
  induction m with
  | nil => simp at h
  | cons q m ih =>
    unfold aget
    rw [List.map_cons, List.nodup_cons] at hn
    rcases List.mem_cons.mp h with rfl | h
    · rw [List.find?_cons_of_pos (by simp)]; rfl
    · have hne : ¬ q.1 = p.1 := fun z => hn.1 (by rw [z]; exact List.mem_map.mpr ⟨p, h, rfl⟩)
      rw [List.find?_cons_of_neg (by simpa using hne)]
      exact ih hn.2 h
  ) only [↓qt_eq])
theorem left_mem {rows : List Row} {b : Body} : b ∈ left' rows ↔ wt rows b ≠ 0 := qt_of (by simp (disch := with_unfolding_all
  obtain ⟨h1, h2⟩ := gm_ok rows
  unfold left'
  constructor
  · intro h
    obtain ⟨p, hp, rfl⟩ := List.mem_map.mp h
    obtain ⟨hm, hz⟩ := List.mem_filter.mp hp
    have := mem_aget h1 hm
    rcases h2 p.1 with ⟨k, _⟩ | ⟨k, _⟩
    · rw [k] at this
      rw [Option.some.inj this]
      simpa using hz
    · rw [k] at this; cases this
  · intro h
    rcases h2 b with ⟨k, _⟩ | ⟨_, k⟩
    · exact List.mem_map.mpr ⟨(b, wt rows b), List.mem_filter.mpr ⟨aget_mem k, by simpa using h⟩, rfl⟩
    · exact absurd (wt_none k) h
  ) only [↓qt_eq])
theorem left_rows {rows : List Row} {b : Body} (h : b ∈ left' rows) : ∃ p ∈ rows, p.2 = b := by
  rcases (gm_ok rows).2 b with ⟨_, k⟩ | ⟨_, k⟩
  · exact k
  · exact absurd (wt_none k) (left_mem.mp h)
/-- rows of a room, of bounded numbers -/
structure Rws (a r N : Nat) (rows : List Row) : Prop where
  bd : Bds a r (rows.map (·.2))
  cm : CbB a N (crn (rows.map (·.2)))
  ha : a ≤ 4000
  hN : N ≤ 7000
  hl : rows.length ≤ 10000
noncomputable def P_gathered : Pr := fun ds A => ∃ (x : PyData) (a r N : Nat) (rows : List Row), ds = [x, .int r] ∧ itemsOf x = some (rows.map rw') ∧ Rws a r N rows ∧ ∀ lt, IsLot rows lt → A (.ok (lotD r lt))
noncomputable def t_gathered (K : Fg) (w : World) : TS := (tSeq (tAsg (tDct0 w) (gName 2))
  (tSeq (tFor (iSeq K (tVar 0)) (gTup K 2 (gCons (gName 4) (gCons (gName 5) gNil))) (tAsg (tOp rAddI (tDM w (rDget K w) (tVar 2) (tCons (tVar 5) (tCons (tC (V.int 0)) tNil))) (tVar 4)) (gSub (tVar 2) (tVar 5) (rDset K w))))
  (tSeq (tAsg (tLc (iDct w (tVar 2)) (gName 5) (tTest (tOp rNe (tOp (rDx K w) (tVar 2) (tVar 5)) (tC (V.int 0)))) (tVar 5) [5]) (gName 3))
  (tRet (tTup (tCons (tVar 1) (tCons (tCB (rTupQ K) (tCons (tLc (iList K (tCall (spW0 K P_inOrder) [] E0 (tCons (tVar 3) tNil))) (gName 5) tYes (tTup (tCons (tOp (rDx K w) (tVar 2) (tVar 5)) (tCons (tVar 5) tNil))) [5]) tNil)) tNil)))))))
-- slots of gathered: 0 rows, 1 room, 2 weights, 3 left, 4 weight, 5 body
theorem ln_gathered : ∀ ds A, P_gathered ds A → ds.length = 2 := fun ds A h => by obtain ⟨_, _, _, _, _, rfl, _⟩ := h; rfl
theorem crn_sub {bs cs : List Body} (h : ∀ b ∈ cs, b ∈ bs) : ∀ s ∈ crn cs, s ∈ crn bs := fun s hs => by
  obtain ⟨b, hb, hs⟩ := List.mem_flatten.mp hs
  exact List.mem_flatten.mpr ⟨b, h b hb, hs⟩
theorem rd_gathered {ds A} (h : P_gathered ds A) : SW K cs W0 (t_gathered K w) (frame 6 ds) (rts0 A) := qt_of (by simp (disch := with_unfolding_all
  obtain ⟨x, a, r, N, rows, rfl, hx, hR, h⟩ := h
  have hrl := hR.hl
  unfold t_gathered
  refine sw_seq (sw_asgF (ef_dct0 ?_))
  walk_at "s"
  refine sw_cut (fun G => ∃ ep e4 e5, G = [.d x, .d (.int r), .ow (od w ep (encM (fun b : Body => b.map frs) PyData.int (gm rows))), .un, e4, e5]) ?_ ?_
  · walk_at "s"
    refine ⟨_, hx, forP (fun pre G => ∃ ep e4 e5, G = [.d x, .d (.int r), .ow (od w ep (encM (fun b : Body => b.map frs) PyData.int (gm pre))), .un, e4, e5]) ⟨_, _, _, rfl⟩ ?_ ?_⟩
    · rintro pre p post _ e ⟨ep, e4, e5, rfl⟩
      have lpre : pre.length + 1 ≤ rows.length := by rw [e]; simp
      have gl := gm_len (rows := pre)
      walk_at "s"
      case hl =>
        unfold encM
        rw [List.length_map]
        omega
      case h =>
        walk_at "s"
        refine ⟨kg_bod p.2, ?_⟩
        rw [look_enc (ek := fun b : Body => b.map frs) kb_inj]
        have eg : (Option.map PyData.int (aget (gm pre) p.2)).getD (.int 0) = .int ((aget (gm pre) p.2).getD 0) := by cases aget (gm pre) p.2 <;> rfl
        rw [eg]
        walk_at "s"
        refine ⟨kg_bod p.2, fun ep' => ?_⟩
        have ep5 := put_enc (ek := fun b : Body => b.map frs) (ev := PyData.int) kb_inj (gm pre) p.2 ((aget (gm pre) p.2).getD 0 + p.1)
        rw [← gm_snoc] at ep5
        rw [ep5]
        walk_at "s"
        exact ⟨_, _, _, rfl⟩
    · rintro _ ⟨ep, e4, e5, rfl⟩
      exact x_nx ⟨_, _, _, rfl⟩
  rintro _ ⟨ep, e4, e5, rfl⟩
  obtain ⟨hnd, hag⟩ := gm_ok rows
  have gl := gm_len (rows := rows)
  have hlk : ∀ b : Body, lookK (encM (fun b : Body => b.map frs) PyData.int (gm rows)) (b.map frs) = (aget (gm rows) b).map PyData.int := fun b => look_enc (ek := fun b : Body => b.map frs) kb_inj (gm rows) b
  refine sw_wk (G1 := [.d x, .d (.int r), .ow (od w ep (encM (fun b : Body => b.map frs) PyData.int (gm rows))), .un, e4, .un]) (.cons (.cons (.cons (.cons (.cons (.drop .nil)))))) ?_
  refine sw_freezeO (i := 2) rfl ?_
  refine sw_seq ?_
  walk_at "s"
  have ek : (encM (fun b : Body => b.map frs) PyData.int (gm rows)).map (fun q => PyData.tuple q.1) = (gm rows).map fun p => bod p.1 := by
    unfold encM
    rw [List.map_map]
    rfl
  rw [ek]
  refine lcF (fun p => decide (p.2 ≠ 0)) (fun p => bod p.1) (by omega) (unk1 rfl) (fun p mp => ?_) ?_
  · walk_at "s"
    refine ⟨p.1.map frs, .int p.2, rfl, kg_bod p.1, by rw [hlk, mem_aget hnd mp]; rfl, ?_⟩
    walk_at "s"
    refine ⟨by simp, fun _ => ?_⟩
    walk_at "s"
    rfl
  have el : ((gm rows).filter fun p => decide (p.2 ≠ 0)).map (fun p => bod p.1) = (left' rows).map bod := by
    unfold left'
    rw [List.map_map]
    rfl
  rw [el]
  have hsub : ∀ b ∈ left' rows, b ∈ rows.map (·.2) := fun b hb => by
    obtain ⟨p, hp, rfl⟩ := left_rows hb
    exact List.mem_map.mpr ⟨p, hp, rfl⟩
  have Bl : Bds a r (left' rows) := ⟨hR.bd.hr, fun b hb => hR.bd.gd b (hsub b hb)⟩
  have Cl : CbB a N (crn (left' rows)) := hR.cm.sub (crn_sub hsub)
  obtain ⟨ys, hys⟩ := inOrd_ex Bl Cl
  have ll : (left' rows).length ≤ rows.length := by
    unfold left'
    rw [List.length_map]
    have := List.length_filter_le (fun p : Body × Int => decide (p.2 ≠ 0)) (gm rows)
    omega
  walk_at "s"
  refine ⟨a, r, N, left' rows, ys, rfl, Bl, Cl, hR.ha, hR.hN, by omega, hys, ?_⟩
  have ly : ys.length ≤ (left' rows).length := by
    have nd : ys.Nodup := hys.1.imp fun {a b} hab e => by rw [e] at hab; exact sLt_irr _ hab
    exact nd.length_le_of_subset fun f hf => (hys.2 f).mp hf
  walk_at "s"
  refine lcM (f := bod) (fun b => rw' (wt rows b, b)) (by omega) (unk1 rfl) (fun b mb => ?_) ?_
  · have hw := left_mem.mp ((hys.2 b).mp mb)
    have ha : aget (gm rows) b = some (wt rows b) := by
      rcases hag b with ⟨k, _⟩ | ⟨_, k⟩
      · exact k
      · exact absurd (wt_none k) hw
    walk_at "s"
    refine ⟨b.map frs, .int (wt rows b), rfl, kg_bod b, by rw [hlk, ha]; rfl, ?_⟩
    walk_at "s"
    rfl
  walk_at "s"
  have := h (ys.map fun b => (wt rows b, b)) ⟨ys, rfl, hys.1, fun b => (hys.2 b).trans left_mem⟩
  rw [show (ys.map fun b => rw' (wt rows b, b)) = (ys.map fun b => (wt rows b, b)).map rw' by rw [List.map_map]; rfl]
  exact this
  ) only [↓qt_eq])
end


end
section
open PySem PyProof.Rows L2 Evl U.Hull

section
variable {K : Fg} {cs : Cs} {gs : Gs} {φ : PyData → Prop} {A : Rs → Prop} {ε : Xw → Prop} {w : World} {W : WX}
/-- what comes of a lot that is bounded -/
noncomputable def BndA (r : Nat) (A : Rs → Prop) (lt : List Row) : Prop := (2000 < lt.length → A (.er (xw "TooMany"))) ∧ (lt.length ≤ 2000 → lt.all smRow = true → A (.ok (lotD r lt))) ∧ (lt.length ≤ 2000 → lt.all smRow = false → A (.er (xw "TooGreat")))
noncomputable def P_settled : Pr := fun ds A => ∃ (x : PyData) (a r N : Nat) (rows : List Row), ds = [x, .int r] ∧ itemsOf x = some (rows.map rw') ∧ Rws a r N rows ∧ ∀ lt, IsLot rows lt → BndA r A lt
noncomputable def t_settled_lot (K : Fg) (cs : Cs) (W : WX) : TS := (tRet (tCallSD (spW K cs P_bounded) [] (WE W) (tCons (tCall (spW0 K P_gathered) [] E0 (tCons (tVar 0) (tCons (tVar 1) tNil))) tNil)))
-- slots of settled_lot: 0 rows, 1 room
theorem ln_settled_lot : ∀ ds A, P_settled ds A → ds.length = 2 := fun ds A h => by obtain ⟨_, _, _, _, _, rfl, _⟩ := h; rfl
theorem lot_mem {rows lt : List Row} (h : IsLot rows lt) {p : Row} (hp : p ∈ lt) : ∃ q ∈ rows, q.2 = p.2 := by
  obtain ⟨ys, rfl, _, m⟩ := h
  obtain ⟨b, hb, rfl⟩ := List.mem_map.mp hp
  exact left_rows (left_mem.mpr ((m b).mp hb))
theorem lot_len {rows lt : List Row} (h : IsLot rows lt) : lt.length ≤ rows.length := qt_of (by simp (disch := with_unfolding_all
  obtain ⟨ys, rfl, pw, m⟩ := h
  rw [List.length_map]
  have nd : ys.Nodup := pw.imp fun {a b} hab e => by rw [e] at hab; exact sLt_irr _ hab
  have h1 := nd.length_le_of_subset (l₂ := rows.map (·.2)) fun b hb => by
    obtain ⟨q, hq, rfl⟩ := left_rows (left_mem.mpr ((m b).mp hb))
    exact List.mem_map.mpr ⟨q, hq, rfl⟩
  rw [List.length_map] at h1
  exact h1
  ) only [↓qt_eq])
theorem rd_settled_lot {ds A} (h : P_settled ds A) (W : WX) : SW K cs W (t_settled_lot K cs W) (frame 2 ds) (rts A) := qt_of (by simp (disch := with_unfolding_all
  obtain ⟨x, a, r, N, rows, rfl, hx, hR, h⟩ := h
  unfold t_settled_lot
  walk_at "s"
  refine ⟨x, a, r, N, rows, rfl, hx, hR, fun lt hlt => ?_⟩
  walk_at "s"
  have hll := lot_len hlt
  have hRl := hR.hl
  obtain ⟨k1, k2, k3⟩ := h lt hlt
  refine ⟨r, lt, rfl, by omega, fun p hp => ?_, k1, k2, k3⟩
  obtain ⟨q, hq, e⟩ := lot_mem hlt hp
  have hb := hR.bd.gd p.2 (by rw [← e]; exact List.mem_map.mpr ⟨q, hq, rfl⟩)
  exact ⟨hb.2.2, fun s hs => by have := (hb.1 s hs).2; have := hR.bd.hr; omega⟩
  ) only [↓qt_eq])
/-! ### lots of rows of spots -/
open Classical in
noncomputable def bdy (ss : List Spot) : Body := if h : ∃ row, Rising ss row then bodyS h.choose else []
theorem bdy_eq {ss row : List Spot} (h : Rising ss row) : bdy ss = bodyS row := by
  unfold bdy
  have he : ∃ row, Rising ss row := ⟨row, h⟩
  rw [dif_pos he, rising_uniq he.choose_spec h]
theorem c_bdy {a r : Nat} {ss : List Spot} {x : PyData} (h : SpR a r ss) (hx : itemsOf x = some (ss.map frs)) (k : φ (bod (bdy ss))) : P_corners [x] (rE φ ε) := c_corners h hx fun row hrow => by rw [← bdy_eq hrow]; exact k
theorem bdy_sps {a r : Nat} {ss : List Spot} (h : SpR a r ss) : Sps a r (bdy ss) ∧ 1 ≤ (bdy ss).length ∧ (bdy ss).length ≤ ss.length ∧ (r = 1 → (bdy ss).length ≤ 2) ∧ ∀ s ∈ bdy ss, s ∈ ss := by
  obtain ⟨row, hrow⟩ := rising_ex h
  rw [bdy_eq hrow]
  obtain ⟨h1, h2, h3, h4⟩ := sps_body h hrow
  exact ⟨h1, h2, h3, h4, fun s hs => (hrow.2 s).mp ((body_ok (h.row hrow)).sub s hs)⟩
/-- a row: its weight, its spots, told as a list or a tuple -/
structure RowS where
  w : Int
  t : Bool
  ss : List Spot
noncomputable def encS (p : RowS) : PyData := .tuple [.int p.w, if p.t then .tuple (p.ss.map frs) else .list (p.ss.map frs)]
theorem encS_it (p : RowS) : itemsOf (if p.t then .tuple (p.ss.map frs) else .list (p.ss.map frs)) = some (p.ss.map frs) := by cases p.t <;> rfl
noncomputable def rowsB (rs : List RowS) : List Row := rs.map fun p => (p.w, bdy p.ss)
structure RwS (a r N : Nat) (rs : List RowS) : Prop where
  hr : r = 1 ∨ r = 2
  gd : ∀ p ∈ rs, Sps a r p.ss ∧ 1 ≤ p.ss.length ∧ p.ss.length ≤ 1000
  cm : CbB a N (rs.flatMap (·.ss))
  ha : a ≤ 900
  hN : N ≤ 6900
  hl : rs.length ≤ 10000
theorem RwS.sp {a r N : Nat} {rs : List RowS} (h : RwS a r N rs) {p : RowS} (hp : p ∈ rs) : SpR a r p.ss := ⟨h.hr, (h.gd p hp).1, fun e => by have := (h.gd p hp).2.1; rw [e] at this; simp at this, h.ha, by have := (h.gd p hp).2.2; omega, N, h.hN, h.cm.sub fun s hs => List.mem_flatMap.mpr ⟨p, hp, hs⟩⟩
theorem RwS.rws {a r N : Nat} {rs : List RowS} (h : RwS a r N rs) : Rws a r N (rowsB rs) where
  bd := ⟨h.hr, fun b hb => by
    obtain ⟨q, hq, rfl⟩ := List.mem_map.mp hb
    obtain ⟨p, hp, rfl⟩ := List.mem_map.mp hq
    obtain ⟨k1, k2, k3, _⟩ := bdy_sps (h.sp hp)
    exact ⟨k1, k2, by have := (h.gd p hp).2.2; show (bdy p.ss).length ≤ 1000; omega⟩⟩
  cm := h.cm.sub fun s hs => by
    obtain ⟨b, hb, hs⟩ := List.mem_flatten.mp hs
    obtain ⟨q, hq, rfl⟩ := List.mem_map.mp hb
    obtain ⟨p, hp, rfl⟩ := List.mem_map.mp hq
    exact List.mem_flatMap.mpr ⟨p, hp, (bdy_sps (h.sp hp)).2.2.2.2 s hs⟩
  ha := by have := h.ha; omega
  hN := by have := h.hN; omega
  hl := by unfold rowsB; rw [List.length_map]; exact h.hl
noncomputable def P_lotOf : Pr := fun ds A => ∃ (x : PyData) (a r N : Nat) (rs : List RowS), ds = [x, .int r] ∧ itemsOf x = some (rs.map encS) ∧ RwS a r N rs ∧ ∀ lt, IsLot (rowsB rs) lt → BndA r A lt
noncomputable def t_lot_of (K : Fg) (cs : Cs) (W : WX) : TS := (tSeq (tIfS (tOr (tNot (tB (tCall (spP K P_isWhole) [] E0 (tCons (tVar 1) tNil)))) (tTest (tOp (rIn K true) (tVar 1) (tTup (tCons (tC (V.int 1)) (tCons (tC (V.int 2)) tNil)))))) (tRaiseX (cs "OtherRoom") (spIn K ["word"] (gCw "OtherRoom")) [] tNil W) tNext)
  (tSeq (tIfS (tNot (tB (tCB (rIsiT K) (tCons (tVar 0) (tCons (tTup (tCons (tC (V.ty "list")) (tCons (tC (V.ty "tuple")) tNil))) tNil))))) (tRaiseX (cs "BadLot") (spIn K ["word"] (gCw "BadLot")) [] tNil W) tNext)
  (tSeq (tAsg (tLst tNil) (gName 2))
  (tSeq (tFor (iSeq K (tVar 0)) (gName 3) (tSeq (tIfS (tOr (tNot (tB (tCB (rIsi K) (tCons (tVar 3) (tCons (tC (V.ty "tuple")) tNil))))) (tOr (tTest (tOp rNe (tCB (rLenQ K) (tCons (tVar 3) tNil)) (tC (V.int 2)))) (tNot (tB (tCall (spP K P_isWhole) [] E0 (tCons (tOp (rIx K) (tVar 3) (tC (V.int 0))) tNil)))))) (tRaiseX (cs "BadLot") (spIn K ["word"] (gCw "BadLot")) [] tNil W) tNext)
  (tSeq (tAsg (tCallSD (spW K cs P_bodyOf) [] (WE W) (tCons (tOp (rIx K) (tVar 3) (tC (V.int 1))) tNil)) (gName 4))
  (tSeq (tIfS (tTest (tOp rNe (tCB (rLenQ K) (tCons (tOp (rIx K) (tVar 4) (tC (V.int 0))) tNil)) (tVar 1))) (tRaiseX (cs "BadSpot") (spIn K ["word"] (gCw "BadSpot")) [] tNil W) tNext)
  (tDrop (tBM K "list" rAppend (tVar 2) (tCons (tTup (tCons (tOp (rIx K) (tVar 3) (tC (V.int 0))) (tCons (tVar 4) tNil))) tNil)))))))
  (tRet (tCallSD (spW K cs P_settled) [] (WE W) (tCons (tVar 2) (tCons (tVar 1) tNil))))))))
-- slots of lot_of: 0 rows, 1 room, 2 found, 3 row, 4 body
theorem ln_lot_of : ∀ ds A, P_lotOf ds A → ds.length = 2 := fun ds A h => by obtain ⟨_, _, _, _, _, rfl, _⟩ := h; rfl
theorem c_isWhole {x : PyData} (h : φ (.bool (isWhole x))) : ∃ r, P_isWhole [x] r ∧ φ r := ⟨_, ⟨x, rfl, rfl⟩, h⟩
theorem rd_lot_of {ds A} (cf1 : ClsF K cs "OtherRoom" ["word"]) (cf2 : ClsF K cs "BadLot" ["word"]) (cf3 : ClsF K cs "BadSpot" ["word"]) (h : P_lotOf ds A) (W : WX) : SW K cs W (t_lot_of K cs W) (frame 5 ds) (rts A) := qt_of (by simp (disch := with_unfolding_all
  obtain ⟨x, a, r, N, rs, rfl, hx, hR, h⟩ := h
  have hrl := hR.hl
  unfold t_lot_of
  refine sw_seq ?_
  walk_at "s"
  refine c_isWhole ?_
  walk_at "s"
  refine cnd_F rfl ?_
  walk_at "s"
  refine ⟨[1, 2], rfl, ?_⟩
  have e12 : ([1, 2] : List Int).contains (r : Int) = true := by rcases hR.hr with rfl | rfl <;> rfl
  rw [if_pos rfl, e12]
  walk_at "s"
  refine sw_seq ?_
  walk_at "s"
  refine ⟨_, _, kit_lst x, kit_tup x, ?_⟩
  rw [items_lt, hx]
  walk_at "s"
  refine cnd_F rfl ?_
  walk_at "s"
  refine sw_seq (sw_asgF (ef_lst0 ?_))
  walk_at "s"
  refine sw_cut (fun G => ∃ e3 e4, G = [.d x, .d (.int r), .ow (ol ((rowsB rs).map rw')), e3, e4]) ?_ ?_
  · walk_at "s"
    refine ⟨_, hx, forP (fun pre G => ∃ e3 e4, G = [.d x, .d (.int r), .ow (ol ((rowsB pre).map rw')), e3, e4]) ⟨_, _, rfl⟩ ?_ ?_⟩
    · rintro pre p post _ e ⟨e3, e4, rfl⟩
      have mp : p ∈ rs := by rw [e]; simp
      have lp : pre.length + 1 ≤ rs.length := by rw [e]; simp
      obtain ⟨k1, k2, k3, k4, k5⟩ := bdy_sps (hR.sp mp)
      have gp := hR.gd p mp
      unfold encS
      walk_at "s"
      refine sw_seq ?_
      walk_at "s"
      refine ⟨_, kit_tup _, ?_⟩
      walk_at "s"
      refine cnd_F rfl ?_
      walk_at "s"
      refine cnd_F rfl ?_
      walk_at "s"
      refine c_isWhole ?_
      walk_at "s"
      refine cnd_F rfl ?_
      walk_at "s"
      refine sw_seq ?_
      walk_at "s"
      refine ⟨_, rfl, fun xs hxs => ?_, .inr ⟨a, r, p.ss, encS_it p, hR.sp mp, fun row hrow => ?_⟩⟩
      · rw [encS_it p] at hxs
        rw [← Option.some.inj hxs, List.length_map]
        omega
      rw [← bdy_eq hrow]
      obtain ⟨s0, b', eb⟩ := List.exists_cons_of_ne_nil (List.length_pos_iff.mp k2)
      have l0 := (k1 s0 (by rw [eb]; simp)).2
      walk_at "s"
      refine sw_seq ?_
      walk_at "s"
      refine ⟨_, atI_nat (j := 0) (by rw [eb]; rfl), ?_⟩
      walk_at "s"
      rw [List.length_map, l0]
      refine cnd_F (by simp) ?_
      walk_at "s"
      refine sw_app (xs := (rowsB pre).map rw') rfl (by unfold rowsB; rw [List.length_map, List.length_map]; omega) ?_
      walk_at "s"
      have es : (rowsB (pre ++ [p])).map rw' = (rowsB pre).map rw' ++ [rw' (p.w, bdy p.ss)] := by unfold rowsB; rw [List.map_append, List.map_append]; rfl
      rw [es]
      exact ⟨_, _, rfl⟩
    · rintro _ ⟨e3, e4, rfl⟩
      exact x_nx ⟨_, _, rfl⟩
  rintro _ ⟨e3, e4, rfl⟩
  refine sw_freeze (i := 2) rfl ?_
  walk_at "s"
  refine ⟨_, a, r, N, rowsB rs, rfl, rfl, hR.rws, fun lt hlt => ?_⟩
  obtain ⟨q1, q2, q3⟩ := h lt hlt
  exact ⟨q1, q2, q3⟩
  ) only [↓qt_eq])
end


end
section
open PySem PyProof.Rows L2 Evl U.Hull

section
variable {K : Fg} {cs : Cs} {gs : Gs} {φ : PyData → Prop} {A : Rs → Prop} {ε : Xw → Prop} {w : World} {W : WX}
/-! ### the law's own lot -/
noncomputable def P_llot : Pr := fun ds A => ∃ (x : PyData) (a r N : Nat) (rs : List RowS), ds = [x, .int r] ∧ itemsOf x = some (rs.map encS) ∧ RwS a r N rs ∧ rs.length ≤ 1000 ∧ ∀ lt, IsLot (rowsB rs) lt → A (.ok (lotD r lt))
noncomputable def t__law_lot (K : Fg) : TS := (tSeq (tAsg (tLst tNil) (gName 2))
  (tSeq (tAsg (tLst tNil) (gName 3))
  (tSeq (tFor (iSeq K (tVar 0)) (gTup K 2 (gCons (gName 9) (gCons (gName 10) gNil))) (tSeq (tAsg (tCall (spW0 K P_corners) [] E0 (tCons (tVar 10) tNil)) (gName 5))
  (tSeq (tIfS (tTest (tOp (rInS K true) (tVar 5) (tVar 2))) (tSeq (tDrop (tBM K "list" rAppend (tVar 2) (tCons (tVar 5) tNil)))
  (tDrop (tBM K "list" rAppend (tVar 3) (tCons (tC (V.int 0)) tNil)))) tNext)
  (tSeq (tAsg (tBM K "list" (rIndexD K) (tVar 2) (tCons (tVar 5) tNil)) (gName 11))
  (tAsg (tOp rAddI (tOp (rIx K) (tVar 3) (tVar 11)) (tVar 9)) (gSub (tVar 3) (tVar 11) rSetL))))))
  (tSeq (tAsg (tLst tNil) (gName 4))
  (tSeq (tFor (iList K (tVar 2)) (gName 5) (tDrop (tBM K "list" rExtend (tVar 4) (tCons (tCB (rListQ K) (tCons (tVar 5) tNil)) tNil))))
  (tSeq (tAsg (tCall (spW0 K P_cb) [] E0 (tCons (tVar 4) tNil)) (gName 6))
  (tSeq (tAsg (tLc (iList K (tVar 2)) (gName 5) tYes (tCall (spW0 K P_lkey) [] E0 (tCons (tVar 5) (tCons (tVar 6) tNil))) [5]) (gName 7))
  (tSeq (tAsg (tCB (rSrtL K) (tCons (tLc (iRng1 (tCons (tCB (rLenQ K) (tCons (tVar 2) tNil)) tNil)) (gName 11) tYes (tTup (tCons (tOp (rIx K) (tVar 7) (tVar 11)) (tCons (tVar 11) tNil))) [11]) tNil)) (gName 8))
  (tRet (tTup (tCons (tVar 1) (tCons (tCB (rTupQ K) (tCons (tLc (iList K (tVar 8)) (gTup K 2 (gCons (gName 12) (gCons (gName 11) gNil))) (tTest (tOp rNe (tOp (rIx K) (tVar 3) (tVar 11)) (tC (V.int 0)))) (tTup (tCons (tOp (rIx K) (tVar 3) (tVar 11)) (tCons (tOp (rIx K) (tVar 2) (tVar 11)) tNil))) [12, 11]) tNil)) tNil))))))))))))
-- slots of _law_lot: 0 _law_rows_here, 1 _law_rank, 2 _law_bodies, 3 _law_weights, 4 _law_corners, 5 _law_body_here, 6 _law_below_here, 7 _law_keys, 8 _law_ranked, 9 _law_weight, 10 _law_spots_here, 11 _law_at, 12 _law_key_here
theorem ln__law_lot : ∀ ds A, P_llot ds A → ds.length = 2 := fun ds A h => by obtain ⟨_, _, _, _, _, rfl, _⟩ := h; rfl
theorem okbod {a r : Nat} {bs : List Body} (h : Bds a r bs) {b : Body} (hb : b ∈ bs) : okD 3 (bod b) = true := okD_tup (by rw [List.length_map]; have := (h.gd b hb).2.2; omega) fun x hx => by
  obtain ⟨s, ms, rfl⟩ := List.mem_map.mp hx
  exact okD_frs (n := 0) (by have := ((h.gd b hb).1 s ms).2; have := h.hr; omega)
theorem canb (b : Body) : (bod b).canLay0 = true := can_tup fun x hx => by
  obtain ⟨s, ms, rfl⟩ := List.mem_map.mp hx
  exact can_frs s
theorem shbs {a r : Nat} {bs : List Body} (h : Bds a r bs) (hl : bs.length ≤ 100000) : SeqAt.shaped (.list (bs.map bod)) = true := shaped_ok (n := 4) (can_list fun x hx => by
      obtain ⟨t, ht, rfl⟩ := List.mem_map.mp hx
      exact canb t) (okD_list (by rw [List.length_map]; omega) fun x hx => by
      obtain ⟨t, ht, rfl⟩ := List.mem_map.mp hx
      exact okbod h ht) (by decide)
theorem shb {a r : Nat} {bs : List Body} (h : Bds a r bs) {b : Body} (hb : b ∈ bs) : SeqAt.shaped (bod b) = true := shaped_ok (n := 3) (canb b) (okbod h hb) (by decide)
theorem ixN_nat {n j : Nat} (h : j < n) : ixN n (j : Int) = some j := by
  unfold ixN
  rw [if_pos (by omega), if_pos (by omega), Int.toNat_natCast]
theorem set_wt {f : Body → Int} {bs : List Body} {b : Body} {j : Nat} {v : Int} (hn : bs.Nodup) (hj : bs[j]? = some b) : ((bs.map f).set j (f b + v)) = bs.map fun c => f c + if b = c then v else 0 := qt_of (by simp (disch := with_unfolding_all
  apply List.ext_getElem?
  intro i
  rw [List.getElem?_set, List.getElem?_map, List.getElem?_map]
  by_cases e : j = i
  · subst e
    have hl : j < bs.length := (List.getElem?_eq_some_iff.mp hj).1
    rw [if_pos rfl, if_pos (by rw [List.length_map]; exact hl), hj]
    simp
  · rw [if_neg e]
    cases hi : bs[i]? with
    | none => rfl
    | some c =>
      have : b ≠ c := fun z => by
        subst z
        exact e ((List.getElem?_inj (List.getElem?_eq_some_iff.mp hj).1 hn).mp (hj.trans hi.symm))
      simp [this]
  ) only [↓qt_eq])
theorem en_rangeB (b : List Body) (g : Nat × Body → PyData) : (List.range b.length).map (fun i => g (i, (b[i]?).getD [])) = (enL b).map g := qt_of (by simp (disch := with_unfolding_all
  apply List.ext_getElem?
  intro i
  rw [List.getElem?_map, List.getElem?_map, enL_at]
  by_cases h : i < b.length
  · rw [List.getElem?_range h, List.getElem?_eq_getElem h]
    simp [List.getElem?_eq_getElem h]
  · rw [List.getElem?_eq_none (by simpa using h), List.getElem?_eq_none (by omega)]
    rfl
  ) only [↓qt_eq])
theorem enL_nodup {β : Type} (xs : List β) : ((enL xs).map (·.1)).Nodup := qt_of (by simp (disch := with_unfolding_all
  have : (enL xs).map (·.1) = List.range xs.length := by
    apply List.ext_getElem?
    intro i
    rw [List.getElem?_map, enL_at]
    by_cases h : i < xs.length
    · rw [List.getElem?_range h, List.getElem?_eq_getElem h]; rfl
    · rw [List.getElem?_eq_none (by omega), List.getElem?_eq_none (by simpa using h)]; rfl
  rw [this]
  exact List.nodup_range
  ) only [↓qt_eq])
theorem rd__law_lot {ds A} (h : P_llot ds A) : SW K cs W0 (t__law_lot K) (frame 13 ds) (rts0 A) := qt_of (by simp (disch := with_unfolding_all
  obtain ⟨x, a, r, N, rs, rfl, hx, hR, hl, h⟩ := h
  have hW := hR.rws
  unfold t__law_lot
  refine sw_seq (sw_asgF (ef_lst0 ?_))
  walk_at "s"
  refine sw_seq (sw_asgF (ef_lst0 ?_))
  walk_at "s"
  refine sw_cut (fun G => ∃ (bs : List Body) (e5 e9 e10 e11 : En), G = [.d x, .d (.int r), .ow (ol (bs.map bod)), .ow (ol ((bs.map (wt (rowsB rs))).map PyData.int)), .un, e5, .un, .un, .un, e9, e10, e11, .un] ∧ bs.Nodup ∧ (∀ b, b ∈ bs ↔ ∃ q ∈ rowsB rs, q.2 = b) ∧ bs.length ≤ rs.length) ?_ ?_
  · walk_at "s"
    refine ⟨_, hx, forP (fun pre G => ∃ (bs : List Body) (e5 e9 e10 e11 : En), G = [.d x, .d (.int r), .ow (ol (bs.map bod)), .ow (ol ((bs.map (wt (rowsB pre))).map PyData.int)), .un, e5, .un, .un, .un, e9, e10, e11, .un] ∧ bs.Nodup ∧ (∀ b, b ∈ bs ↔ ∃ q ∈ rowsB pre, q.2 = b) ∧ bs.length ≤ pre.length) ⟨[], _, _, _, _, rfl, by simp, by simp [rowsB], by simp⟩ ?_ ?_⟩
    · rintro pre p post _ e ⟨bs, e5, e9, e10, e11, rfl, hn, hm, hbl⟩
      have mp : p ∈ rs := by rw [e]; simp
      have lp : pre.length + 1 ≤ rs.length := by rw [e]; simp
      have hsub : ∀ b ∈ bs, b ∈ (rowsB rs).map (·.2) := fun b hb => by
        obtain ⟨q, hq, rfl⟩ := (hm b).mp hb
        unfold rowsB at hq ⊢
        obtain ⟨p', hp', rfl⟩ := List.mem_map.mp hq
        exact List.mem_map.mpr ⟨_, List.mem_map.mpr ⟨p', by rw [e]; simp [hp'], rfl⟩, rfl⟩
      have hbm : bdy p.ss ∈ (rowsB rs).map (·.2) := List.mem_map.mpr ⟨_, List.mem_map.mpr ⟨p, mp, rfl⟩, rfl⟩
      have Bs : Bds a r bs := ⟨hR.hr, fun b hb => hW.bd.gd b (hsub b hb)⟩
      have esn : rowsB (pre ++ [p]) = rowsB pre ++ [(p.w, bdy p.ss)] := by unfold rowsB; rw [List.map_append]; rfl
      unfold encS
      walk_at "s"
      refine sw_seq ?_
      walk_at "s"
      refine c_bdy (hR.sp mp) (encS_it p) ?_
      generalize hbd : bdy p.ss = b at hbm esn
      walk_at "s"
      refine sw_cut (fun G => ∃ (bs' : List Body) (e9 e10 e11 : En), G = [.d x, .d (.int r), .ow (ol (bs'.map bod)), .ow (ol ((bs'.map (wt (rowsB pre))).map PyData.int)), .un, .d (bod b), .un, .un, .un, .d (.int p.w), e10, e11, .un] ∧ bs'.Nodup ∧ (∀ c, c ∈ bs' ↔ c ∈ bs ∨ c = b) ∧ bs'.length ≤ pre.length + 1) ?_ ?_
      · walk_at "s"
        refine ⟨shb hW.bd hbm, shbs Bs (by omega), ?_⟩
        walk_at "s"
        rw [if_pos rfl, any_enc eqv_bod]
        refine cnd_nd (fun hnb => ?_) (fun hb => ?_)
        · refine sw_seq ?_
          refine sw_app (xs := bs.map bod) rfl (by rw [List.length_map]; omega) ?_
          walk_at "s"
          have e0 : wt (rowsB pre) b = 0 := wt_none fun q hq z => hnb ((hm b).mpr ⟨q, hq, z⟩)
          refine ⟨bs ++ [b], .un, .d (if p.t then .tuple (p.ss.map frs) else .list (p.ss.map frs)), e11, ?_, ?_, fun c => by simp, by simp; omega⟩
          · rw [List.map_append, List.map_append, List.map_append]
            simp only [List.map_cons, List.map_nil, e0]
            rfl
          · rw [List.nodup_append]
            refine ⟨hn, by simp, fun c hc d hd z => ?_⟩
            rw [List.mem_singleton.mp hd] at z
            exact hnb (by rw [← z]; exact hc)
        · walk_at "s"
          exact ⟨bs, .un, _, _, rfl, hn, fun c => ⟨.inl, fun z => z.elim id fun z => by rw [z]; exact hb⟩, by omega⟩
      rintro _ ⟨bs', _, e10', e11', rfl, hn', hm', hbl'⟩
      have hb' : b ∈ bs' := (hm' b).mpr (.inr rfl)
      obtain ⟨j, hj⟩ := List.mem_iff_getElem?.mp hb'
      have hjl := (List.getElem?_eq_some_iff.mp hj).1
      have Bs' : Bds a r bs' := ⟨hR.hr, fun c hc => by
        rcases (hm' c).mp hc with hc | rfl
        · exact Bs.gd c hc
        · exact hW.bd.gd _ hbm⟩
      refine sw_seq ?_
      walk_at "s"
      refine ⟨shbs Bs' (by omega), shb hW.bd hbm, j, bod b, by rw [List.getElem?_map, hj]; rfl, by rw [eqv_bod]; simp, fun m z' hmj hz => ?_, ?_⟩
      · rw [List.getElem?_map] at hz
        obtain ⟨c, hc, rfl⟩ := Option.map_eq_some_iff.mp hz
        rw [eqv_bod]
        refine decide_eq_false fun z => ?_
        subst z
        have := (List.getElem?_inj (List.getElem?_eq_some_iff.mp hc).1 hn').mp (hc.trans hj.symm)
        omega
      walk_at "s"
      refine ⟨_, atI_nat (by rw [List.getElem?_map, List.getElem?_map, hj]; rfl), ?_⟩
      walk_at "s"
      refine ⟨_, _, rfl, ixN_nat (j := j) (by simp; omega), ?_⟩
      walk_at "s"
      have ew : ((bs'.map (wt (rowsB pre))).map PyData.int).set j (.int (wt (rowsB pre) b + p.w)) = (bs'.map (wt (rowsB (pre ++ [p])))).map PyData.int := by
        rw [← List.map_set, set_wt hn' hj, esn]
        congr 1
        refine List.map_congr_left fun c _ => ?_
        rw [wt_snoc]
      refine ⟨bs', _, _, _, _, by rw [ew]; rfl, hn', fun c => ?_, by simp; omega⟩
      rw [hm' c, hm c, esn]
      constructor
      · rintro (⟨q, hq, z⟩ | z)
        · exact ⟨q, by simp [hq], z⟩
        · exact ⟨(p.w, b), by simp, z.symm⟩
      · rintro ⟨q, hq, z⟩
        rcases List.mem_append.mp hq with hq | hq
        · exact .inl ⟨q, hq, z⟩
        · rw [List.mem_singleton.mp hq] at z; exact .inr z.symm
    · rintro _ ⟨bs, e5, e9, e10, e11, rfl, hn, hm, hbl⟩
      exact x_nx ⟨bs, _, _, _, _, rfl, hn, hm, hbl⟩
  rintro _ ⟨bs, e5, e9, e10, e11, rfl, hn, hm, hbl⟩
  have hsub : ∀ b ∈ bs, b ∈ (rowsB rs).map (·.2) := fun b hb => by
    obtain ⟨q, hq, rfl⟩ := (hm b).mp hb
    exact List.mem_map.mpr ⟨q, hq, rfl⟩
  have Bs : Bds a r bs := ⟨hR.hr, fun b hb => hW.bd.gd b (hsub b hb)⟩
  have Cs' : CbB a N (crn bs) := hW.cm.sub (crn_sub hsub)
  have hbl2 : ∀ b ∈ bs, b.length ≤ 1000 := fun b hb => (Bs.gd b hb).2.2
  have hcl := crn_len hbl2
  refine sw_freeze (i := 2) rfl ?_
  refine sw_freeze (i := 3) rfl ?_
  refine sw_seq (sw_asgF (ef_lst0 ?_))
  walk_at "s"
  refine sw_cut (fun G => ∃ e5, G = [.d x, .d (.int r), .d (.list (bs.map bod)), .d (.list ((bs.map (wt (rowsB rs))).map PyData.int)), .ow (ol ((crn bs).map frs)), e5, .un, .un, .un, e9, e10, e11, .un]) ?_ ?_
  · walk_at "s"
    refine forP (fun pre G => ∃ e5, G = [.d x, .d (.int r), .d (.list (bs.map bod)), .d (.list ((bs.map (wt (rowsB rs))).map PyData.int)), .ow (ol ((crn pre).map frs)), e5, .un, .un, .un, e9, e10, e11, .un]) ⟨_, rfl⟩ ?_ ?_
    · rintro pre b post _ e ⟨e5', rfl⟩
      have mb : b ∈ bs := by rw [e]; simp
      have hcp : (crn (pre ++ [b])).length ≤ (crn bs).length := by
        have : crn bs = crn (pre ++ [b]) ++ crn post := by rw [e]; unfold crn; simp
        rw [this, List.length_append]
        omega
      have ec : crn (pre ++ [b]) = crn pre ++ b := by unfold crn; simp
      rw [ec, List.length_append] at hcp
      walk_at "s"
      refine sw_ext rfl ?_
      walk_at "ef"
      walk_at "s"
      refine ⟨by simp; omega, ?_⟩
      walk_at "s"
      rw [ec, List.map_append]
      exact ⟨_, rfl⟩
    · rintro _ ⟨e5', rfl⟩
      exact x_nx ⟨_, rfl⟩
  rintro _ ⟨e5', rfl⟩
  refine sw_freeze (i := 4) rfl ?_
  refine sw_wk (G1 := [.d x, .d (.int r), .d (.list (bs.map bod)), .d (.list ((bs.map (wt (rowsB rs))).map PyData.int)), .d (.list ((crn bs).map frs)), .un, .un, .un, .un, e9, e10, .un, .un]) (.cons (.cons (.cons (.cons (.cons (.drop (.cons (.cons (.cons (.cons (.cons (.drop (.cons .nil))))))))))))) ?_
  refine sw_seq ?_
  walk_at "s"
  refine ⟨_, a, N, crn bs, rfl, rfl, Cs', by have := hR.ha; omega, by have := hR.hN; omega, ?_⟩
  obtain ⟨c1, c2, c3⟩ := Cs'.spc
  have hspc : ∀ b ∈ bs, SpC (cb 1 (crn bs)) (fl b) := fun b mb => spc_fl (fun s hs => Cs'.gd s (mem_crn mb hs)) fun s hs => (c2 s (mem_crn mb hs)).dv
  generalize cb 1 (crn bs) = c at c1 c2 c3 hspc
  walk_at "s"
  refine sw_seq ?_
  walk_at "s"
  refine lcM (f := bod) (fun b => .list (inz (ky c (fl b)))) (by omega) (unk1 rfl) (fun b mb => ?_) ?_
  · walk_at "s"
    refine ⟨_, a, b, c, rfl, rfl, fun s hs => ⟨((Bs.gd _ mb).1 s hs).1, by have := ((Bs.gd _ mb).1 s hs).2; have := hR.hr; omega⟩, by have := hR.ha; omega, by have := hbl2 _ mb; omega, c3.mono (by have := hR.hN; omega), ?_⟩
    walk_at "s"
    rw [ky_fl]
  walk_at "s"
  refine sw_seq ?_
  walk_at "s"
  refine lcM (fun i => ki (ky c (fl ((bs[i]?).getD [])), i)) (by rw [List.length_range]; simp; omega) (unk1 rfl) (fun i mi => ?_) ?_
  · have hi : i < bs.length := by
      have := List.mem_range.mp mi
      simp at this
      omega
    walk_at "s"
    rw [show (0 : Int) + (i : Int) = (i : Int) by omega]
    refine ⟨_, atI_nat (by rw [List.getElem?_map, List.getElem?_eq_getElem hi]; rfl), ?_⟩
    walk_at "s"
    rw [List.getElem?_eq_getElem hi]
    rfl
  rw [show ((((bs.map bod).length : Nat) : Int)).toNat = bs.length by simp]
  rw [en_rangeB bs (fun p => ki (ky c (fl p.2), p.1))]
  have ek : (enL bs).map (fun p => ki (ky c (fl p.2), p.1)) = ((enL bs).map fun p => (ky c (fl p.2), p.1)).map ki := by rw [List.map_map]; rfl
  rw [ek]
  walk_at "s"
  refine ⟨ok_ki _, ?_⟩
  rw [srt_ki]
  have hmem : ∀ q ∈ srtK ((enL bs).map fun p => (ky c (fl p.2), p.1)), ∃ b, bs[q.2]? = some b ∧ q.1 = ky c (fl b) := fun q hq => by
    obtain ⟨p, mp, rfl⟩ := List.mem_map.mp (srtK_mem.mp hq)
    exact ⟨p.2, enL_mem mp, rfl⟩
  have hall : ∀ b ∈ bs, ∃ q ∈ srtK ((enL bs).map fun p => (ky c (fl p.2), p.1)), bs[q.2]? = some b := fun b mb => by
    obtain ⟨i, hi⟩ := List.mem_iff_getElem?.mp mb
    refine ⟨(ky c (fl b), i), srtK_mem.mpr (List.mem_map.mpr ⟨(i, b), ?_, rfl⟩), hi⟩
    exact List.mem_iff_getElem?.mpr ⟨i, by rw [enL_at, hi]; rfl⟩
  have hpw := srtK_pw ((enL bs).map fun p => (ky c (fl p.2), p.1))
  have hsl : (srtK ((enL bs).map fun p => (ky c (fl p.2), p.1))).length = bs.length := by unfold srtK; rw [List.length_mergeSort, List.length_map, enL_len]
  have hnd : ((srtK ((enL bs).map fun p => (ky c (fl p.2), p.1))).map (·.2)).Nodup := by
    have h1 : (((enL bs).map fun p => (ky c (fl p.2), p.1)).map (·.2)).Nodup := by rw [List.map_map]; exact enL_nodup bs
    exact ((List.mergeSort_perm _ kle).map (·.2)).nodup_iff.mpr h1
  generalize srtK ((enL bs).map fun p => (ky c (fl p.2), p.1)) = ks at hmem hall hpw hsl hnd
  walk_at "s"
  refine lcF (f := ki) (fun q => decide (wt (rowsB rs) ((bs[q.2]?).getD []) ≠ 0)) (fun q => rw' (wt (rowsB rs) ((bs[q.2]?).getD []), (bs[q.2]?).getD [])) (by omega) (unk2 rfl rfl) (fun q mq => ?_) ?_
  · obtain ⟨b, hqb, hq1⟩ := hmem q mq
    have hw : atI ((bs.map (wt (rowsB rs))).map PyData.int) (q.2 : Nat) = some (.int (wt (rowsB rs) b)) := atI_nat (by rw [List.getElem?_map, List.getElem?_map, hqb]; rfl)
    have hb : atI (bs.map bod) (q.2 : Nat) = some (bod b) := atI_nat (by rw [List.getElem?_map, hqb]; rfl)
    rw [hqb]
    walk_at "s"
    refine ⟨_, hw, ?_⟩
    walk_at "s"
    refine ⟨by simp, fun _ => ?_⟩
    walk_at "s"
    refine ⟨_, hw, ?_⟩
    walk_at "s"
    refine ⟨_, hb, ?_⟩
    walk_at "s"
    rfl
  walk_at "s"
  have e2 : ((ks.filter fun q => decide (wt (rowsB rs) ((bs[q.2]?).getD []) ≠ 0)).map fun q => rw' (wt (rowsB rs) ((bs[q.2]?).getD []), (bs[q.2]?).getD [])) = (((ks.filter fun q => decide (wt (rowsB rs) ((bs[q.2]?).getD []) ≠ 0)).map fun q => (bs[q.2]?).getD []).map fun b => (wt (rowsB rs) b, b)).map rw' := by
    rw [List.map_map, List.map_map]
    rfl
  rw [e2]
  refine h _ ⟨_, rfl, ?_, fun b => ?_⟩
  · rw [List.pairwise_map]
    have hpn : ks.Pairwise fun a b => a.1 ≤ b.1 ∧ a.2 ≠ b.2 := by
      unfold List.Nodup at hnd
      rw [List.pairwise_map] at hnd
      exact hpw.and hnd
    refine (hpn.sublist List.filter_sublist).imp_of_mem fun {q q'} mq mq' ⟨h1, h2⟩ => ?_
    obtain ⟨b, hb, e1⟩ := hmem q (List.mem_filter.mp mq).1
    obtain ⟨b', hb', e1'⟩ := hmem q' (List.mem_filter.mp mq').1
    rw [hb, hb']
    have mb := List.mem_of_getElem? hb
    have mb' := List.mem_of_getElem? hb'
    rw [e1, e1'] at h1
    rcases List.le_iff_lt_or_eq.mp h1 with h1 | h1
    · exact (ky_slt c1 (hspc b mb) (hspc b' mb')).mp h1
    · have : b = b' := Bs.inj mb mb' (ky_inj c1 (hspc b mb) (hspc b' mb') h1)
      subst this
      exact absurd ((List.getElem?_inj (List.getElem?_eq_some_iff.mp hb).1 hn).mp (hb.trans hb'.symm)) h2
  · constructor
    · intro hb
      obtain ⟨q, mq, rfl⟩ := List.mem_map.mp hb
      simpa using (List.mem_filter.mp mq).2
    · intro hw
      have mb : b ∈ bs := (hm b).mpr (by
        obtain ⟨q, hq, e⟩ := left_rows (left_mem.mpr hw)
        exact ⟨q, hq, e⟩)
      obtain ⟨q, mq, hq⟩ := hall b mb
      refine List.mem_map.mpr ⟨q, List.mem_filter.mpr ⟨mq, ?_⟩, by rw [hq]; rfl⟩
      rw [hq]
      simpa using hw
  ) only [↓qt_eq])
end


end
section
open PySem PyProof.Rows L2 Evl U.Hull

section
variable {K : Fg} {cs : Cs} {gs : Gs} {φ : PyData → Prop} {A : Rs → Prop} {ε : Xw → Prop} {w : World} {W : WX}
/-! ### drawn rows -/
structure DrR (a r C : Nat) (rs : List RowS) : Prop where
  wl : ∀ p ∈ rs, -7 ≤ p.w ∧ p.w ≤ 7
  tf : ∀ p ∈ rs, p.t = false
  sp : ∀ p ∈ rs, Sps a r p.ss ∧ 1 ≤ p.ss.length ∧ p.ss.length ≤ C
theorem DrR.mono {a b r C : Nat} {rs : List RowS} (h : DrR a r C rs) (l : a ≤ b) : DrR b r C rs := ⟨h.wl, h.tf, fun p hp => ⟨(h.sp p hp).1.mono l, (h.sp p hp).2⟩⟩
theorem DrR.nil {a r C : Nat} : DrR a r C [] := ⟨by simp, by simp, by simp⟩
theorem DrR.snoc {a r C : Nat} {rs : List RowS} {p : RowS} (h : DrR a r C rs) (k : DrR a r C [p]) : DrR a r C (rs ++ [p]) := ⟨fun q hq => by
    rcases List.mem_append.mp hq with hq | hq
    · exact h.wl q hq
    · exact k.wl q hq, fun q hq => by
    rcases List.mem_append.mp hq with hq | hq
    · exact h.tf q hq
    · exact k.tf q hq, fun q hq => by
    rcases List.mem_append.mp hq with hq | hq
    · exact h.sp q hq
    · exact k.sp q hq⟩
theorem DrR.one {a r C : Nat} {w : Int} {ss : List Spot} (h1 : -7 ≤ w) (h2 : w ≤ 7) (h3 : Sps a r ss) (h4 : 1 ≤ ss.length) (h5 : ss.length ≤ C) : DrR a r C [⟨w, false, ss⟩] := ⟨fun q hq => by rw [List.mem_singleton.mp hq]; exact ⟨h1, h2⟩, fun q hq => by rw [List.mem_singleton.mp hq], fun q hq => by rw [List.mem_singleton.mp hq]; exact ⟨h3, h4, h5⟩⟩
noncomputable def P_lrows : Pr := fun ds A => ∃ r L C : Nat, ds = [.int r, .int L, .int C] ∧ (r = 1 ∨ r = 2) ∧ L ≤ 100 ∧ 1 ≤ C ∧ C ≤ 100 ∧ ∀ rs, DrR 14 r (C + 1) rs → rs.length ≤ L + 1 → A (.fl (ol (rs.map encS)))
noncomputable def t__law_rows (K : Fg) : TS := (tSeq (tAsg (tLst tNil) (gName 4))
  (tSeq (tFor (iRng1 (tCons (tCall (spB K P_pull) [] E0 (tCons (tVar 0) (tCons (tOp rAddI (tVar 2) (tC (V.int 1))) tNil))) tNil)) (gName 5) (tSeq (tAsg (tOp (rIx K) (tLst (tCons (tC (V.int 1)) (tCons (tUn rNegI (tC (V.int 1))) (tCons (tC (V.int 2)) (tCons (tUn rNegI (tC (V.int 3))) (tCons (tC (V.int 1)) (tCons (tC (V.int 7)) (tCons (tC (V.int 0)) tNil)))))))) (tCall (spB K P_pull) [] E0 (tCons (tVar 0) (tCons (tC (V.int 7)) tNil)))) (gName 6))
  (tDrop (tBM K "list" rAppend (tVar 4) (tCons (tTup (tCons (tVar 6) (tCons (tCall (spWB K P_lspots) [] E0 (tCons (tVar 0) (tCons (tVar 1) (tCons (tVar 3) tNil)))) tNil))) tNil)))))
  (tSeq (tIfS (tAnd (tTest (tOp rGtI (tCB (rLenQ K) (tCons (tVar 4) tNil)) (tC (V.int 0)))) (tTest (tOp rEq (tCall (spB K P_pull) [] E0 (tCons (tVar 0) (tCons (tC (V.int 5)) tNil))) (tC (V.int 0))))) (tSeq (tAsg (tOp (rIx K) (tVar 4) (tCall (spB K P_pull) [] E0 (tCons (tVar 0) (tCons (tCB (rLenQ K) (tCons (tVar 4) tNil)) tNil)))) (gName 7))
  (tDrop (tBM K "list" rAppend (tVar 4) (tCons (tTup (tCons (tOp rSubI (tC (V.int 1)) (tCall (spB K P_pull) [] E0 (tCons (tVar 0) (tCons (tC (V.int 3)) tNil)))) (tCons (tRevL K (tOp (rIx K) (tVar 7) (tC (V.int 1)))) tNil))) tNil)))) tNext)
  (tRet (tVar 4)))))
-- slots of _law_rows: 0 _law_bag_here, 1 _law_rank, 2 _law_limit, 3 _law_corners, 4 _law_found, 5 _law_at, 6 _law_weight, 7 _law_row
theorem ln__law_rows : ∀ ds A, P_lrows ds A → ds.length + 1 = 4 := fun ds A h => by obtain ⟨_, _, _, rfl, _⟩ := h; rfl
theorem rd__law_rows {ds A} (h : P_lrows ds A) : SW K cs W0 (t__law_rows K) (.bag :: frame 7 ds) (rts0 A) := qt_of (by simp (disch := with_unfolding_all
  obtain ⟨r, L, C, rfl, hr, hL, hC, hC2, h⟩ := h
  unfold t__law_rows
  refine sw_seq (sw_asgF (ef_lst0 ?_))
  walk_at "s"
  refine sw_cut (fun G => ∃ (rs : List RowS) (e5 e6 : En), G = [.bag, .d (.int r), .d (.int L), .d (.int C), .ow (ol (rs.map encS)), e5, e6, .un] ∧ DrR 14 r (C + 1) rs ∧ rs.length ≤ L) ?_ ?_
  · walk_at "s"
    rename_i v v0 v1
    have hlr : (rngD 0 v.toNat).length ≤ L := by rw [rngD_len]; omega
    refine forP0 (fun pre G => ∃ (rs : List RowS) (e5 e6 : En), G = [.bag, .d (.int r), .d (.int L), .d (.int C), .ow (ol (rs.map encS)), e5, e6, .un] ∧ DrR 14 r (C + 1) rs ∧ rs.length ≤ pre.length) ⟨[], _, _, rfl, DrR.nil, by simp⟩ ?_ ?_
    · rintro pre x post _ e ⟨rs, e5, e6, rfl, hD, hl⟩
      have lp : pre.length + 1 ≤ L := by rw [e] at hlr; simp at hlr; omega
      walk_at "s"
      refine sw_seq ?_
      walk_at "s"
      refine ⟨by decide, _, rfl, ?_⟩
      walk_at "s"
      rename_i j j0 j1
      obtain ⟨wn, mw, ew⟩ := atI_in (f := PyData.int) (xs := [1, -1, 2, -3, 1, 7, 0]) (j := j) j0 j1
      have hw : -7 ≤ wn ∧ wn ≤ 7 := by
        simp at mw
        omega
      refine ⟨_, ew, ?_⟩
      walk_at "s"
      refine ⟨r, C, rfl, hr, hC, by omega, fun ss g l1 l2 => ?_⟩
      walk_at "s"
      refine ⟨rs ++ [⟨wn, false, ss⟩], .d x, .d (.int wn), ?_, hD.snoc (DrR.one hw.1 hw.2 g l1 l2), by simp; omega⟩
      rw [List.map_append]
      rfl
    · rintro _ ⟨rs, e5, e6, rfl, hD, hl⟩
      exact x_nx ⟨rs, _, _, rfl, hD, by omega⟩
  rintro _ ⟨rs, e5, e6, rfl, hD, hl⟩
  refine sw_cut (fun G => ∃ (rs : List RowS) (e7 : En), G = [.bag, .d (.int r), .d (.int L), .d (.int C), .ow (ol (rs.map encS)), e5, e6, e7] ∧ DrR 14 r (C + 1) rs ∧ rs.length ≤ L + 1) ?_ ?_
  · walk_at "s"
    rw [show decide (0 < ((rs.map encS).length : Int)) = decide (0 < rs.length) by simp]
    refine cnd_d (fun hp => ?_) (fun hp => ?_)
    · walk_at "s"
      rename_i q q0 q1
      refine cnd_d (fun _ => ?_) (fun _ => ?_)
      · refine sw_seq (sw_asg (ew_ixO (i := 4) rfl ?_))
        refine ew_callB (i := 0) rfl (aw_cons (ew_lenO (i := 4) rfl (aw_nil fun s ok => c_pull (by rw [List.length_map]; omega) (by rw [List.length_map]; omega) (fun j j0 j1 => ?_) s ok)))
        rw [List.length_map] at j1
        obtain ⟨p, mp, ep⟩ := atI_in (f := encS) (xs := rs) j0 j1
        refine ⟨_, rfl, _, ep, ?_⟩
        have hpt := hD.tf p mp
        have ee : encS p = .tuple [.int p.w, .list (p.ss.map frs)] := by unfold encS; rw [hpt]; rfl
        rw [ee]
        walk_at "s"
        rename_i m m0 m1
        obtain ⟨sp, l1, l2⟩ := hD.sp p mp
        refine ⟨rs ++ [⟨1 - m, false, p.ss.reverse⟩], .d (.tuple [.int p.w, .list (p.ss.map frs)]), ?_, hD.snoc (DrR.one (by omega) (by omega) (fun s hs => sp s (List.mem_reverse.mp hs)) (by rw [List.length_reverse]; exact l1) (by rw [List.length_reverse]; exact l2)), by simp; omega⟩
        rw [List.map_append, ← List.map_reverse]
        rfl
      · walk_at "s"
        exact ⟨rs, _, rfl, hD, by omega⟩
    · refine cnd_F rfl ?_
      walk_at "s"
      exact ⟨rs, _, rfl, hD, by omega⟩
  rintro _ ⟨rs, e7, rfl, hD, hl⟩
  refine sw_retO (i := 4) rfl ?_
  exact h rs hD hl
  ) only [↓qt_eq])
end


end
section
open PySem PyProof.Rows L2 Evl U.Hull

section
variable {K : Fg} {cs : Cs} {gs : Gs} {φ : PyData → Prop} {A : Rs → Prop} {ε : Xw → Prop} {w : World} {W : WX}
/-! ### lots in plain -/
theorem wt_cons {rows : List Row} {p : Row} {b : Body} : wt (p :: rows) b = (if p.2 = b then p.1 else 0) + wt rows b := by
  unfold wt
  by_cases h : p.2 = b <;> simp [h]
theorem wt_bd {M : Int} {b : Body} (hM : 0 ≤ M) : ∀ {rows : List Row}, (∀ p ∈ rows, -M ≤ p.1 ∧ p.1 ≤ M) → -(M * rows.length) ≤ wt rows b ∧ wt rows b ≤ M * rows.length
  | [], _ => by simp [wt]
  | p :: rows, h => by
    obtain ⟨h1, h2⟩ := wt_bd hM (b := b) (rows := rows) fun q hq => h q (by simp [hq])
    obtain ⟨h3, h4⟩ := h p (by simp)
    rw [wt_cons, List.length_cons, Int.natCast_add, Int.mul_add]
    split <;> omega
theorem lot_wbd {M : Int} {rows lt : List Row} (hM : 0 ≤ M) (h : IsLot rows lt) (hw : ∀ p ∈ rows, -M ≤ p.1 ∧ p.1 ≤ M) : ∀ p ∈ lt, -(M * rows.length) ≤ p.1 ∧ p.1 ≤ M * rows.length := fun p hp => by
  obtain ⟨ys, rfl, pw, m⟩ := h
  obtain ⟨b, hb, rfl⟩ := List.mem_map.mp hp
  exact wt_bd hM hw
theorem lot_small {M : Int} {rows lt : List Row} (hM : 0 ≤ M) (h : IsLot rows lt) (hw : ∀ p ∈ rows, -M ≤ p.1 ∧ p.1 ≤ M) (hb : ∀ p ∈ rows, smBody p.2 = true) (hl : M * rows.length ≤ 1000000000000000000) : lt.all smRow = true := List.all_eq_true.mpr fun p hp => by
  obtain ⟨h1, h2⟩ := lot_wbd hM h hw p hp
  obtain ⟨q, hq, e⟩ := lot_mem h hp
  unfold smRow sm
  rw [← e, hb q hq, decide_eq_true (show -1000000000000000000 ≤ p.1 by omega), decide_eq_true (show p.1 ≤ 1000000000000000000 by omega)]
  rfl
theorem sm_bd {n : Int} (h : Bd 59 n) : sm n = true := by
  unfold Bd at h
  unfold sm
  rw [decide_eq_true (show -1000000000000000000 ≤ n by omega), decide_eq_true (show n ≤ 1000000000000000000 by omega)]
  rfl
theorem sm_sps {a r : Nat} {b : Body} (h : Sps a r b) (ha : a ≤ 59) : smBody b = true := by
  unfold smBody
  refine List.all_eq_true.mpr fun s hs => List.all_eq_true.mpr fun f hf => ?_
  have g := (h s hs).1 f hf
  rw [sm_bd (g.1.1.mono ha), sm_bd (g.1.2.mono ha)]
  rfl
theorem DrR.rws {r C : Nat} {rs : List RowS} (h : DrR 40 r C rs) (hr : r = 1 ∨ r = 2) (hC : C ≤ 80) (hl : rs.length * C ≤ 80) (hn : rs.length ≤ 1000) : RwS 40 r 6401 rs := qt_of (by simp (disch := with_unfolding_all
  have hlen : (rs.flatMap (·.ss)).length ≤ rs.length * C := by
    clear hl hn
    have h' := h.sp
    clear h
    induction rs with
    | nil => simp
    | cons p rs ih =>
      have i1 := ih fun q hq => h' q (by simp [hq])
      have i2 := (h' p (by simp)).2.2
      rw [List.flatMap_cons, List.length_append, List.length_cons, Nat.succ_mul]
      omega
  refine ⟨hr, fun p hp => ⟨(h.sp p hp).1, (h.sp p hp).2.1, by have := (h.sp p hp).2.2; omega⟩, (CbB.of (r := 2) fun s hs => ?_).mono (Nat.le_refl _) (by omega), by decide, by decide, by omega⟩
  obtain ⟨p, hp, hs⟩ := List.mem_flatMap.mp hs
  obtain ⟨k1, k2⟩ := (h.sp p hp).1 s hs
  exact ⟨k1, by omega⟩
  ) only [↓qt_eq])
theorem RwS.sm {a r N : Nat} {rs : List RowS} (h : RwS a r N rs) (ha : a ≤ 59) : ∀ p ∈ rowsB rs, smBody p.2 = true := fun q hq => by
  obtain ⟨p, hp, rfl⟩ := List.mem_map.mp hq
  exact sm_sps (bdy_sps (h.sp hp)).1 ha
theorem rowsB_w {rs : List RowS} {M : Int} (h : ∀ p ∈ rs, -M ≤ p.w ∧ p.w ≤ M) : ∀ p ∈ rowsB rs, -M ≤ p.1 ∧ p.1 ≤ M := fun q hq => by
  obtain ⟨p, hp, rfl⟩ := List.mem_map.mp hq
  exact h p hp
theorem rowsB_len {rs : List RowS} : (rowsB rs).length = rs.length := by unfold rowsB; rw [List.length_map]
theorem lot_sub {rows lt : List Row} {a r N : Nat} (h : IsLot rows lt) (R : Rws a r N rows) : Rws a r N lt where
  bd := ⟨R.bd.hr, fun b hb => by
    obtain ⟨p, hp, rfl⟩ := List.mem_map.mp hb
    obtain ⟨q, hq, e⟩ := lot_mem h hp
    rw [← e]
    exact R.bd.gd q.2 (List.mem_map.mpr ⟨q, hq, rfl⟩)⟩
  cm := R.cm.sub (crn_sub fun b hb => by
    obtain ⟨p, hp, rfl⟩ := List.mem_map.mp hb
    obtain ⟨q, hq, e⟩ := lot_mem h hp
    rw [← e]
    exact List.mem_map.mpr ⟨q, hq, rfl⟩)
  ha := R.ha
  hN := R.hN
  hl := by have := lot_len h; have := R.hl; omega
/-! ### two lots -/
-- slots of same_room: 0 one, 1 other
-- slots of added: 0 one, 1 other
-- slots of scaled: 0 lot, 1 number, 2 weight, 3 body
-- slots of told23: 0 _law_one, 1 _law_other, 2 why
/-! ### drawn lots -/
theorem c_lotD {r C : Nat} {rs : List RowS} {x : PyData} (h : DrR 40 r C rs) (R : RwS 40 r 6401 rs) (hn : rs.length ≤ 1000) (hx : itemsOf x = some (rs.map encS)) (k : ∀ lt, IsLot (rowsB rs) lt → φ (lotD r lt)) : P_lotOf [x, .int r] (rE φ ε) := ⟨x, 40, r, 6401, rs, rfl, hx, R, fun lt hlt => by
  have hs : lt.all smRow = true := lot_small (M := 7) (by decide) hlt (rowsB_w h.wl) (R.sm (by decide)) (by rw [rowsB_len]; omega)
  have hl := lot_len hlt
  rw [rowsB_len] at hl
  exact ⟨fun z => by omega, fun _ _ => k lt hlt, fun _ z => by rw [hs] at z; cases z⟩⟩
theorem okD_bod {n a r : Nat} {b : Body} (h : Sps a r b) (hr : r = 1 ∨ r = 2) (hl : b.length ≤ 1000) : okD (n + 3) (bod b) = true := okD_tup (n := n + 2) (by rw [List.length_map]; omega) fun x hx => by
  obtain ⟨s, ms, rfl⟩ := List.mem_map.mp hx
  exact okD_frs (by have := (h s ms).2; omega)
theorem okD_i (n : Nat) (i : Int) : okD n (.int i) = true := by cases n <;> rfl
theorem okD_lot {n a r N : Nat} {lt : List Row} (h : Rws a r N lt) : okD (n + 6) (lotD r lt) = true := okD_tup (n := n + 5) (by simp) fun x hx => by
  rcases List.mem_cons.mp hx with rfl | hx
  · exact okD_i _ _
  rw [List.mem_singleton.mp hx]
  exact okD_tup (n := n + 4) (by rw [List.length_map]; have := h.hl; omega) fun y hy => by
    obtain ⟨p, mp, rfl⟩ := List.mem_map.mp hy
    exact okD_tup (n := n + 3) (by simp) fun z hz => by
      rcases List.mem_cons.mp hz with rfl | hz
      · exact okD_i _ _
      rw [List.mem_singleton.mp hz]
      obtain ⟨k1, _, k3⟩ := h.bd.gd p.2 (List.mem_map.mpr ⟨p, mp, rfl⟩)
      exact okD_bod k1 h.bd.hr k3
end


end
section
open PySem PyProof.Rows L2 Evl U.Hull

section
variable {K : Fg} {cs : Cs} {gs : Gs} {φ : PyData → Prop} {A : Rs → Prop} {ε : Xw → Prop} {w : World} {W : WX}
/-! ### what a lot sums to -/
-- slots of tally: 0 lot, 1 weight, 2 body
-- slots of land: 0 lot, 1 found, 2 weight, 3 body
-- slots of _law_size: 0 _law_spots_here, 1 _law_body_here, 2 _law_total, 3 _law_at
end


end
section
open PySem PyProof.Rows L2 Evl

section
variable {K : Fg} {cs : Cs} {gs : Gs} {φ : PyData → Prop} {A : Rs → Prop} {ε : Xw → Prop}
/-! ### maps that lead -/
-- slots of room_from: 0 way
-- slots of summed: 0 row, 1 spot, 2 last, 3 step, 4 one, 5 steps
-- slots of led: 0 way, 1 spot, 2 row
/-! ### the law's own -/
-- slots of _law_led: 0 _law_kind, 1 _law_spot_here, 2 _law_found, 3 _law_row, 4 _law_total, 5 _law_at
-- slots of told16: 0 _law_map_rows, 1 _law_spot_here, 2 why
end


end
section
open PySem PyProof.Rows L2 Evl U.Hull

section
variable {K : Fg} {cs : Cs} {gs : Gs} {φ : PyData → Prop} {A : Rs → Prop} {ε : Xw → Prop} {w : World} {W : WX}
/-! ### bodies carried -/
-- slots of carried: 0 lot, 1 way, 2 rows, 3 weight, 4 body, 5 corner
-- slots of _law_carried: 0 _law_rows_here, 1 _law_table, 2 _law_weight, 3 _law_spots_here, 4 _law_spot_here
-- slots of told25: 0 _law_lot_here, 1 _law_table, 2 why
end


end
section
open PySem PyProof.Rows L2 Evl U.Hull

section
variable {K : Fg} {cs : Cs} {gs : Gs} {φ : PyData → Prop} {A : Rs → Prop} {ε : Xw → Prop} {w : World} {W : WX}
/-! ### xs.insert(i, y) -/
theorem sw_insI {i : Nat} {xs : List PyData} {G : Gam} {te tj : TE} {Φ : Out → Prop} (hi : G[i]? = some (.ow (ol xs))) (hl : xs.length < 16000000) (h : EW K cs W tj G (fun y => ∃ j : Nat, y = .int j ∧ j ≤ 1000000 ∧ EW K cs W te G (fun x => Φ (.nx (G.set i (.ow (ol (xs.take j ++ [x] ++ xs.drop j)))))) (fun e => Φ (.ex e G))) (fun e => Φ (.ex e G))) :
    SW K cs W (tDrop (tBM K "list" rIns (tVar i) (tCons tj (tCons te tNil)))) G Φ := fun Wd B ad H0 H σ D S q => by
  obtain ⟨o, g1, rfl, vs, g3, g4⟩ := S.at_ i _ hi
  have g3 : H (ad i) = some (.lst vs) := g3
  refine ⟨_, g1, Or.inl ⟨rfl, vs, sq_of g3⟩, h Wd B ad H0 H σ S _ (fun y ⟨j, ej, hj, h⟩ u H1 S1 e1 d1 => ?_) (post_xp q)⟩
  subst ej
  cases d1
  refine h Wd B ad H0 H1 σ S1 _ (fun x p v H2 S2 e2 d2 => ?_) ((post_xp q).go e1)
  obtain ⟨_, _, _, us, g5, g6⟩ := S2.at_ i _ hi
  have g6 : DpAll K _ us xs := g6
  exact ⟨_, us, j, v, rfl, rfl, g5, by rw [dpa_len g6]; exact Nat.lt_of_lt_of_le hl (by decide), by omega, by omega, q _ p ad _ σ (S2.chg (c' := ol (xs.take j ++ [x] ++ xs.drop j)) hi (dpa_app (dpa_app (dpa_take j g6) (.cons d2 .nil)) (dpa_drop j g6))) (((Xb.lz e1).trans (Xb.lz e2)).trans (chg_ex hi))⟩
/-! ### nothing -/
noncomputable def P_nothing : Pr := fun ds A => ∃ n : Int, ds = [.int n] ∧ A (.ok (.tuple [.int n, .tuple []]))
noncomputable def t_nothing (K : Fg) : TS := (tRet (tTup (tCons (tVar 0) (tCons (tTup tNil) tNil))))
-- slots of nothing: 0 room
theorem ln_nothing : ∀ ds A, P_nothing ds A → ds.length = 1 := fun ds A h => by obtain ⟨_, rfl, _⟩ := h; rfl
theorem rd_nothing {ds A} (h : P_nothing ds A) : SW K cs W0 (t_nothing K) (frame 1 ds) (rts0 A) := by
  obtain ⟨n, rfl, h⟩ := h
  unfold t_nothing
  walk_at "w"
  exact h
/-! ### lot_of, told anything -/
noncomputable def BentLot (x : PyData) : Prop := isTup x = false ∨ (∃ xs, x = .tuple xs ∧ xs.length ≠ 2) ∨ ∃ a b, x = .tuple [a, b] ∧ isWhole a = false
noncomputable def BentSpot (r : Nat) (x : PyData) : Prop := ∃ (w : Int) (sp : PyData), x = .tuple [.int w, sp] ∧ (∀ xs, itemsOf sp = some xs → xs.length ≤ 10000) ∧ (badSpots sp = true ∨ ∃ (a q : Nat) (ss : List Spot), q ≠ r ∧ itemsOf sp = some (ss.map frs) ∧ SpR a q ss)
noncomputable def P_lotOfW : Pr := fun ds A => (∃ x y : PyData, ds = [x, y] ∧ (y = .none ∨ (∃ z, y = .str z) ∨ ∃ n : Int, y = .int n ∧ n ≠ 1 ∧ n ≠ 2) ∧ A (.er (xw "OtherRoom"))) ∨
  (∃ (x : PyData) (r : Nat), ds = [x, .int r] ∧ (r = 1 ∨ r = 2) ∧ itemsOf x = none ∧ A (.er (xw "BadLot"))) ∨
  (∃ (x : PyData) (a r N : Nat) (rs : List RowS) (bad : PyData) (post : List PyData), ds = [x, .int r] ∧ itemsOf x = some (rs.map encS ++ bad :: post) ∧ RwS a r N rs ∧ post.length ≤ 10000 ∧ ((BentLot bad ∧ A (.er (xw "BadLot"))) ∨ (BentSpot r bad ∧ A (.er (xw "BadSpot"))))) ∨
  P_lotOf ds A
noncomputable def P_lotOfWD : Pr := fun ds A => ∃ r : Nat, ds = [.int r] ∧ (r = 1 ∨ r = 2) ∧ A (.er (xw "BadLot"))
noncomputable def t_lotOfW (K : Fg) (cs : Cs) (W : WX) : TS := (tSeq (tIfS (tOr (tNot (tB (tCall (spP K P_isWhole) [] E0 (tCons (tVar 1) tNil)))) (tTest (tOp (rIn K true) (tVar 1) (tTup (tCons (tC (V.int 1)) (tCons (tC (V.int 2)) tNil)))))) (tRaiseX (cs "OtherRoom") (spIn K ["word"] (gCw "OtherRoom")) [] tNil W) tNext)
  (tSeq (tIfS (tNot (tB (tCB (rIsiT K) (tCons (tVar 0) (tCons (tTup (tCons (tC (V.ty "list")) (tCons (tC (V.ty "tuple")) tNil))) tNil))))) (tRaiseX (cs "BadLot") (spIn K ["word"] (gCw "BadLot")) [] tNil W) tNext)
  (tSeq (tAsg (tLst tNil) (gName 2))
  (tSeq (tFor (iSeq K (tVar 0)) (gName 3) (tSeq (tIfS (tOr (tNot (tB (tCB (rIsi K) (tCons (tVar 3) (tCons (tC (V.ty "tuple")) tNil))))) (tOr (tTest (tOp rNe (tCB (rLenQ K) (tCons (tVar 3) tNil)) (tC (V.int 2)))) (tNot (tB (tCall (spP K P_isWhole) [] E0 (tCons (tOp (rIx K) (tVar 3) (tC (V.int 0))) tNil)))))) (tRaiseX (cs "BadLot") (spIn K ["word"] (gCw "BadLot")) [] tNil W) tNext)
  (tSeq (tAsg (tCallSD (spW K cs P_bodyOf) [] (WE W) (tCons (tOp (rIx K) (tVar 3) (tC (V.int 1))) tNil)) (gName 4))
  (tSeq (tIfS (tTest (tOp rNe (tCB (rLenQ K) (tCons (tOp (rIx K) (tVar 4) (tC (V.int 0))) tNil)) (tVar 1))) (tRaiseX (cs "BadSpot") (spIn K ["word"] (gCw "BadSpot")) [] tNil W) tNext)
  (tDrop (tBM K "list" rAppend (tVar 2) (tCons (tTup (tCons (tOp (rIx K) (tVar 3) (tC (V.int 0))) (tCons (tVar 4) tNil))) tNil)))))))
  (tRet (tCallSD (spW K cs P_settled) [] (WE W) (tCons (tVar 2) (tCons (tVar 1) tNil))))))))
-- slots of lotOfW: 0 rows, 1 room, 2 found, 3 row, 4 body
theorem ln_lotOfW : ∀ ds A, P_lotOfW ds A → ds.length = 2 := fun ds A h => by
  rcases h with ⟨_, _, rfl, _⟩ | ⟨_, _, rfl, _⟩ | ⟨_, _, _, _, _, _, _, rfl, _⟩ | h
  · rfl
  · rfl
  · rfl
  · exact ln_lot_of _ _ h
theorem lnD_lotOfW : ∀ ds A, P_lotOfWD ds A → ds.length + 1 = 2 := fun ds A h => by obtain ⟨_, rfl, _⟩ := h; rfl
noncomputable def rowE : RowS ⊕ PyData → PyData
  | .inl p => encS p
  | .inr x => x
theorem first_inr {rs : List RowS} {bad x : PyData} {post : List PyData} {qs : List RowS} {z : List (RowS ⊕ PyData)} (h : rs.map Sum.inl ++ .inr bad :: post.map .inr = qs.map Sum.inl ++ .inr x :: z) : x = bad := qt_of (by simp (disch := with_unfolding_all
  induction rs generalizing qs with
  | nil =>
    cases qs with
    | nil => simp at h; exact h.1.symm
    | cons q qs => simp at h
  | cons p rs ih =>
    cases qs with
    | nil => simp at h
    | cons q qs =>
      simp only [List.map_cons, List.cons_append, List.cons.injEq] at h
      exact ih h.2
  ) only [↓qt_eq])
theorem mem_inl {rs : List RowS} {bad : PyData} {post : List PyData} {p : RowS} {pre z : List (RowS ⊕ PyData)} (h : rs.map Sum.inl ++ .inr bad :: post.map .inr = pre ++ .inl p :: z) : p ∈ rs := by
  have m : (Sum.inl p : RowS ⊕ PyData) ∈ rs.map Sum.inl ++ .inr bad :: post.map .inr := by rw [h]; simp
  simpa using m
theorem rd_lotOfW {ds A} (cf1 : ClsF K cs "OtherRoom" ["word"]) (cf2 : ClsF K cs "BadLot" ["word"]) (cf3 : ClsF K cs "BadSpot" ["word"]) (h : P_lotOfW ds A) (W : WX) : SW K cs W (t_lotOfW K cs W) (frame 5 ds) (rts A) := qt_of (by simp (disch := with_unfolding_all
  rcases h with ⟨x, y, rfl, hy, h⟩ | ⟨x, r, rfl, hr, hx, h⟩ | ⟨x, a, r, N, rs, bad, post, rfl, hx, hR, hp, h⟩ | h
  · unfold t_lotOfW
    refine sw_seq ?_
    walk_at "s"
    refine c_isWhole ?_
    walk_at "s"
    rcases hy with rfl | ⟨z, rfl⟩ | ⟨n, rfl, h1, h2⟩
    · refine cnd_T rfl ?_
      walk_at "s"
      refine sw_raise0 cf1 rfl ?_
      exact h
    · refine cnd_T rfl ?_
      walk_at "s"
      refine sw_raise0 cf1 rfl ?_
      exact h
    · refine cnd_F rfl ?_
      walk_at "s"
      refine ⟨[1, 2], rfl, ?_⟩
      have e12 : ([1, 2] : List Int).contains n = false := by simp; omega
      rw [if_pos rfl, e12]
      walk_at "s"
      refine sw_raise0 cf1 rfl ?_
      exact h
  · unfold t_lotOfW
    refine sw_seq ?_
    walk_at "s"
    refine c_isWhole ?_
    walk_at "s"
    refine cnd_F rfl ?_
    walk_at "s"
    refine ⟨[1, 2], rfl, ?_⟩
    have e12 : ([1, 2] : List Int).contains (r : Int) = true := by rcases hr with rfl | rfl <;> rfl
    rw [if_pos rfl, e12]
    walk_at "s"
    refine sw_seq ?_
    walk_at "s"
    refine ⟨_, _, kit_lst x, kit_tup x, ?_⟩
    rw [items_lt, hx]
    walk_at "s"
    refine cnd_T rfl ?_
    refine sw_raise0 cf2 rfl ?_
    exact h
  · have hrl := hR.hl
    unfold t_lotOfW
    refine sw_seq ?_
    walk_at "s"
    refine c_isWhole ?_
    walk_at "s"
    refine cnd_F rfl ?_
    walk_at "s"
    refine ⟨[1, 2], rfl, ?_⟩
    have e12 : ([1, 2] : List Int).contains (r : Int) = true := by rcases hR.hr with rfl | rfl <;> rfl
    rw [if_pos rfl, e12]
    walk_at "s"
    refine sw_seq ?_
    walk_at "s"
    refine ⟨_, _, kit_lst x, kit_tup x, ?_⟩
    rw [items_lt, hx]
    walk_at "s"
    refine cnd_F rfl ?_
    walk_at "s"
    refine sw_seq (sw_asgF (ef_lst0 ?_))
    walk_at "s"
    have eL : rs.map encS ++ bad :: post = ((rs.map Sum.inl ++ Sum.inr bad :: post.map Sum.inr : List (RowS ⊕ PyData))).map rowE := by
      rw [List.map_append, List.map_cons, List.map_map, List.map_map]
      congr 1
      simp [rowE, Function.comp_def]
    rw [eL] at hx
    refine sw_seq ?_
    walk_at "s"
    refine ⟨_, hx, forP (fun pre G => ∃ qs e3 e4, pre = qs.map Sum.inl ∧ G = [.d x, .d (.int r), .ow (ol ((rowsB qs).map rw')), e3, e4]) ⟨[], _, _, rfl, rfl⟩ ?_ ?_⟩
    · rintro pre p post2 _ e ⟨qs, e3, e4, rfl, rfl⟩
      have lq : qs.length ≤ 30000 := by
        have := congrArg List.length e
        simp at this
        omega
      cases p with
      | inl p =>
        have mp : p ∈ rs := mem_inl e
        obtain ⟨k1, k2, k3, k4, k5⟩ := bdy_sps (hR.sp mp)
        have gp := hR.gd p mp
        show GW K _ _ (encS p) _
        unfold encS
        walk_at "s"
        refine sw_seq ?_
        walk_at "s"
        refine ⟨_, kit_tup _, ?_⟩
        walk_at "s"
        refine cnd_F rfl ?_
        walk_at "s"
        refine cnd_F rfl ?_
        walk_at "s"
        refine c_isWhole ?_
        walk_at "s"
        refine cnd_F rfl ?_
        walk_at "s"
        refine sw_seq ?_
        walk_at "s"
        refine ⟨_, rfl, fun xs hxs => ?_, .inr ⟨a, r, p.ss, encS_it p, hR.sp mp, fun row hrow => ?_⟩⟩
        · rw [encS_it p] at hxs
          rw [← Option.some.inj hxs, List.length_map]
          omega
        rw [← bdy_eq hrow]
        obtain ⟨s0, b', eb⟩ := List.exists_cons_of_ne_nil (List.length_pos_iff.mp k2)
        have l0 := (k1 s0 (by rw [eb]; simp)).2
        walk_at "s"
        refine sw_seq ?_
        walk_at "s"
        refine ⟨_, atI_nat (j := 0) (by rw [eb]; rfl), ?_⟩
        walk_at "s"
        rw [List.length_map, l0]
        refine cnd_F (by simp) ?_
        walk_at "s"
        refine sw_app (xs := (rowsB qs).map rw') rfl (by unfold rowsB; rw [List.length_map, List.length_map]; omega) ?_
        walk_at "s"
        have es : (rowsB (qs ++ [p])).map rw' = (rowsB qs).map rw' ++ [rw' (p.w, bdy p.ss)] := by unfold rowsB; rw [List.map_append, List.map_append]; rfl
        exact ⟨qs ++ [p], _, _, by rw [List.map_append]; rfl, by rw [es]; rfl⟩
      | inr z =>
        have ez : z = bad := first_inr e
        subst ez
        show GW K _ _ z _
        walk_at "s"
        refine sw_seq ?_
        walk_at "s"
        refine ⟨_, kit_tup _, ?_⟩
        walk_at "s"
        rcases h with ⟨hb, h⟩ | ⟨⟨w, sp, rfl, hsl, hb⟩, h⟩
        · rcases hb with hb | ⟨xs, rfl, hb⟩ | ⟨u, v, rfl, hb⟩
          · refine cnd_T (by rw [hb]; rfl) ?_
            walk_at "s"
            refine sw_raise0 cf2 rfl ?_
            exact h
          · refine cnd_F rfl ?_
            walk_at "s"
            refine cnd_T (by simp; omega) ?_
            walk_at "s"
            refine sw_raise0 cf2 rfl ?_
            exact h
          · refine cnd_F rfl ?_
            walk_at "s"
            refine cnd_F rfl ?_
            walk_at "s"
            refine c_isWhole ?_
            walk_at "s"
            refine cnd_T (by rw [hb]; rfl) ?_
            refine sw_raise0 cf2 rfl ?_
            exact h
        · refine cnd_F rfl ?_
          walk_at "s"
          refine cnd_F rfl ?_
          walk_at "s"
          refine c_isWhole ?_
          walk_at "s"
          refine cnd_F rfl ?_
          walk_at "s"
          refine sw_seq ?_
          walk_at "s"
          rcases hb with hb | ⟨a', q, ss, hq, hss, hS⟩
          · refine ⟨_, rfl, hsl, .inl ⟨hb, ?_⟩⟩
            exact h
          · refine ⟨_, rfl, hsl, .inr ⟨a', q, ss, hss, hS, fun row hrow => ?_⟩⟩
            rw [← bdy_eq hrow]
            obtain ⟨k1, k2, k3, k4, k5⟩ := bdy_sps hS
            obtain ⟨s0, b', eb⟩ := List.exists_cons_of_ne_nil (List.length_pos_iff.mp k2)
            have l0 := (k1 s0 (by rw [eb]; simp)).2
            walk_at "s"
            refine sw_seq ?_
            walk_at "s"
            refine ⟨_, atI_nat (j := 0) (by rw [eb]; rfl), ?_⟩
            walk_at "s"
            rw [List.length_map, l0]
            refine cnd_T (by simp; omega) ?_
            refine sw_raise0 cf3 rfl ?_
            exact h
    · rintro _ ⟨qs, e3, e4, e, rfl⟩
      have m : (Sum.inr bad : RowS ⊕ PyData) ∈ qs.map Sum.inl := by rw [← e]; simp
      simp at m
  · exact rd_lot_of cf1 cf2 cf3 h W
  ) only [↓qt_eq])
theorem rdD_lotOfW {ds A} (cf1 : ClsF K cs "OtherRoom" ["word"]) (cf2 : ClsF K cs "BadLot" ["word"]) (cf3 : ClsF K cs "BadSpot" ["word"]) (h : P_lotOfWD ds A) (W : WX) : SW K cs W (t_lotOfW K cs W) (.fz od0 :: frame (5 - 1) ds) (rts A) := qt_of (by simp (disch := with_unfolding_all
  obtain ⟨r, rfl, hr, h⟩ := h
  unfold t_lotOfW
  refine sw_seq ?_
  walk_at "s"
  refine c_isWhole ?_
  walk_at "s"
  refine cnd_F rfl ?_
  walk_at "s"
  refine ⟨[1, 2], rfl, ?_⟩
  have e12 : ([1, 2] : List Int).contains (r : Int) = true := by rcases hr with rfl | rfl <;> rfl
  rw [if_pos rfl, e12]
  walk_at "s"
  refine sw_seq ?_
  refine sw_if (tw_not (tw_B ?_))
  refine ew_isiF2 (b := false) (c := false) (n := "list") (m := "tuple") (i := 0) rfl (by decide +kernel) (by decide +kernel) ?_
  refine ⟨_, rfl, cnd_t ?_⟩
  refine sw_raise0 cf2 rfl ?_
  exact h
  ) only [↓qt_eq])
end


end
section
open PySem PyProof.Rows L2 Evl U.Hull

section
variable {K : Fg} {cs : Cs} {gs : Gs} {φ : PyData → Prop} {A : Rs → Prop} {ε : Xw → Prop} {w : World} {W : WX}
/-! ### k19's own telling -/
noncomputable def tldE (A : Rs → Prop) : Rs → Prop
  | .ok v => A (.ok v)
  | .fl _ => False
  | .er e => (e = xw "OtherRoom" ∧ A (.ok (.list [.str "OtherRoom"]))) ∨ (e = xw "BadLot" ∧ A (.ok (.list [.str "BadLot"]))) ∨ (e = xw "BadSpot" ∧ A (.ok (.list [.str "BadSpot"])))
noncomputable def P_told19 : Pr := fun ds A => P_lotOfW ds (tldE A)
noncomputable def P_told19D : Pr := fun ds A => P_lotOfWD ds (tldE A)
theorem lotOfW_mono {ds : List PyData} {A A' : Rs → Prop} (m : ∀ r, A r → A' r) (h : P_lotOfW ds A) : P_lotOfW ds A' := qt_of (by simp (disch := with_unfolding_all
  rcases h with ⟨x, y, e, hy, h⟩ | ⟨x, r, e, hr, hx, h⟩ | ⟨x, a, r, N, rs, bad, post, e, hx, hR, hp, h⟩ | ⟨x, a, r, N, rs, e, hx, hR, h⟩
  · exact .inl ⟨x, y, e, hy, m _ h⟩
  · exact .inr (.inl ⟨x, r, e, hr, hx, m _ h⟩)
  · exact .inr (.inr (.inl ⟨x, a, r, N, rs, bad, post, e, hx, hR, hp, h.imp (fun h => ⟨h.1, m _ h.2⟩) (fun h => ⟨h.1, m _ h.2⟩)⟩))
  · exact .inr (.inr (.inr ⟨x, a, r, N, rs, e, hx, hR, fun lt hlt => ⟨fun z => m _ ((h lt hlt).1 z), fun z z2 => m _ ((h lt hlt).2.1 z z2), fun z z2 => m _ ((h lt hlt).2.2 z z2)⟩⟩))
  ) only [↓qt_eq])
noncomputable def t_told19 (K : Fg) (cs : Cs) : TS := (tTryN K (fun W => (tRet (tCallNS 1 1 (spWF K cs P_lotOfW P_lotOfWD) (fun vs zs => vs ++ zs) (WE W) (tCons (tVar 0) tNil) (tCons (tVar 1) tNil)))) [((.ref (cs "OtherRoom") : Value), 2, fun a cls d => (tRet (tLst (tCons (tXf a cls d (cs "OtherRoom") "word" (tVar 2)) tNil)))), ((.ref (cs "BadLot") : Value), 2, fun a cls d => (tRet (tLst (tCons (tXf a cls d (cs "BadLot") "word" (tVar 2)) tNil)))), ((.ref (cs "BadSpot") : Value), 2, fun a cls d => (tRet (tLst (tCons (tXf a cls d (cs "BadSpot") "word" (tVar 2)) tNil))))])
-- slots of told19: 0 _law_rows_here, 1 _law_rank, 2 why
theorem ln_told19 : ∀ ds A, P_told19 ds A → ds.length = 2 := fun ds A h => ln_lotOfW _ _ h
theorem lnD_told19 : ∀ ds A, P_told19D ds A → ds.length + 1 = 2 := fun ds A h => lnD_lotOfW _ _ h
section
variable (e1 : PySem.W.exmOne K (.ref (cs "OtherRoom")) (.ref (cs "OtherRoom")) = some true) (e2 : PySem.W.exmOne K (.ref (cs "BadLot")) (.ref (cs "OtherRoom")) = some false) (e3 : PySem.W.exmOne K (.ref (cs "BadLot")) (.ref (cs "BadLot")) = some true)
  (e4 : PySem.W.exmOne K (.ref (cs "BadSpot")) (.ref (cs "OtherRoom")) = some false) (e5 : PySem.W.exmOne K (.ref (cs "BadSpot")) (.ref (cs "BadLot")) = some false) (e6 : PySem.W.exmOne K (.ref (cs "BadSpot")) (.ref (cs "BadSpot")) = some true)
include e1 e2 e3 e4 e5 e6
theorem rd_told19 {ds A} (h : P_told19 ds A) : SW K cs W0 (t_told19 K cs) (frame 3 ds) (rts0 A) := qt_of (by simp (disch := with_unfolding_all
  have hl := ln_told19 ds A h
  match ds, hl with
  | [x, y], _ =>
  unfold t_told19
  refine sw_tryN fun W' => ?_
  refine sw_ret ?_
  refine ew_callNF (eo_of ?_)
  walk_at "s"
  refine ⟨rfl, rfl, lotOfW_mono (fun r hr => ?_) h⟩
  cases r with
  | ok v => exact hr
  | fl c => exact hr.elim
  | er e =>
    rcases hr with ⟨rfl, k⟩ | ⟨rfl, k⟩ | ⟨rfl, k⟩
    · refine ⟨true, e1, cnd_t fun a d => ?_⟩
      walk_at "wi"
      exact ew_xfS rfl rfl k
    · refine ⟨false, e2, cnd_f ⟨true, e3, cnd_t fun a d => ?_⟩⟩
      walk_at "wi"
      exact ew_xfS rfl rfl k
    · refine ⟨false, e4, cnd_f ⟨false, e5, cnd_f ⟨true, e6, cnd_t fun a d => ?_⟩⟩⟩
      walk_at "wi"
      exact ew_xfS rfl rfl k
  ) only [↓qt_eq])
theorem rdD_told19 {ds A} (h : P_told19D ds A) : SW K cs W0 (t_told19 K cs) (.fz od0 :: frame (3 - 1) ds) (rts0 A) := qt_of (by simp (disch := with_unfolding_all
  obtain ⟨r, rfl, hr, h⟩ := h
  unfold t_told19
  refine sw_tryN fun W' => ?_
  refine sw_ret ?_
  refine ew_callNF (eo_fz rfl ?_)
  walk_at "s"
  refine ⟨rfl, rfl, r, rfl, hr, ?_⟩
  rcases h with ⟨e, k⟩ | ⟨e, k⟩ | ⟨e, k⟩
  · cases e
  · refine ⟨false, e2, cnd_f ⟨true, e3, cnd_t fun a d => ?_⟩⟩
    walk_at "wi"
    exact ew_xfS rfl rfl k
  · cases e
  ) only [↓qt_eq])
end
/-! ### a spoilt row -/
noncomputable def wild5 : List PyData := [.none, .bool true, .str "1", .tuple [.int 1], .list [.int 1, .int 2]]
noncomputable def P_bent : Pr := fun ds A => ∃ (r : Nat) (s : Spot), ds = [.tuple [.int 2, .list [frs s]], .int r] ∧ (r = 1 ∨ r = 2) ∧ Gds 14 s ∧ s.length = r ∧ (∀ x, BentLot x → A (.ok (.tuple [x, .str "BadLot"]))) ∧ (∀ x, BentSpot r x → A (.ok (.tuple [x, .str "BadSpot"])))
noncomputable def t__law_bent (K : Fg) : TS := (tSeq (tAsg (tOp (rIx K) (tLst (tCons (tC V.non) (tCons (tC (V.bl true)) (tCons (tC (V.str "1")) (tCons (tTup (tCons (tC (V.int 1)) tNil)) (tCons (tLst (tCons (tC (V.int 1)) (tCons (tC (V.int 2)) tNil))) tNil)))))) (tCall (spB K P_pull) [] E0 (tCons (tVar 0) (tCons (tC (V.int 5)) tNil)))) (gName 3))
  (tSeq (tAsg (tLst (tCons (tTup (tCons (tVar 3) (tCons (tOp (rIx K) (tVar 1) (tC (V.int 1))) tNil))) (tCons (tTup (tCons (tOp (rIx K) (tVar 1) (tC (V.int 0))) tNil)) (tCons (tOp (rCatA K) (tVar 1) (tTup (tCons (tC (V.int 1)) tNil))) (tCons (tCB (rListQ K) (tCons (tVar 1) tNil)) (tCons (tVar 3) tNil)))))) (gName 4))
  (tSeq (tAsg (tCall (spB K P_pull) [] E0 (tCons (tVar 0) (tCons (tC (V.int 8)) tNil))) (gName 5))
  (tSeq (tIfS (tTest (tOp rLtI (tVar 5) (tC (V.int 5)))) (tRet (tTup (tCons (tOp (rIx K) (tVar 4) (tVar 5)) (tCons (tC (V.str "BadLot")) tNil)))) tNext)
  (tSeq (tAsg (tLst (tCons (tLst tNil) (tCons (tC V.non) (tCons (tOp (rCatL K) (tOp (rIx K) (tVar 1) (tC (V.int 1))) (tLst (tCons (tVar 3) tNil))) (tCons (tLst (tCons (tCall (spB K P_spot) [] E0 (tCons (tVar 0) (tCons (tOp rSubI (tC (V.int 3)) (tVar 2)) tNil))) tNil)) (tCons (tLst (tCons (tCB (rTupQ K) (tCons (tOp (rCatL K) (tLc (iTup K (tOp (rIx K) (tOp (rIx K) (tVar 1) (tC (V.int 1))) (tC (V.int 0)))) (gName 7) tYes (tVar 7) [7]) (tLst (tCons (tC (V.int 3)) tNil))) tNil)) tNil)) tNil)))))) (gName 6))
  (tRet (tTup (tCons (tTup (tCons (tOp (rIx K) (tVar 1) (tC (V.int 0))) (tCons (tOp (rIx K) (tVar 6) (tCall (spB K P_pull) [] E0 (tCons (tVar 0) (tCons (tC (V.int 5)) tNil)))) tNil))) (tCons (tC (V.str "BadSpot")) tNil)))))))))
-- slots of _law_bent: 0 _law_bag_here, 1 _law_row, 2 _law_rank, 3 _law_wild, 4 _law_bends, 5 _law_kind, 6 _law_spots_here, 7 _law_one
theorem ln__law_bent : ∀ ds A, P_bent ds A → ds.length + 1 = 3 := fun ds A h => by obtain ⟨_, _, rfl, _⟩ := h; rfl
theorem wild5_lot : ∀ z ∈ wild5, isWhole z = false ∧ BentLot z ∧ isSpot 1 z = false ∧ isSpot 2 z = false := qt_of (by simp (disch := with_unfolding_all
  intro z hz
  simp only [wild5, List.mem_cons, List.not_mem_nil, or_false] at hz
  rcases hz with rfl | rfl | rfl | rfl | rfl
  · exact ⟨rfl, .inl rfl, rfl, rfl⟩
  · exact ⟨rfl, .inl rfl, rfl, rfl⟩
  · exact ⟨rfl, .inl rfl, rfl, rfl⟩
  · exact ⟨rfl, .inr (.inl ⟨_, rfl, by decide⟩), rfl, rfl⟩
  · exact ⟨rfl, .inl rfl, rfl, rfl⟩
  ) only [↓qt_eq])
theorem rd__law_bent {ds A} (h : P_bent ds A) : SW K cs W0 (t__law_bent K) (.bag :: frame 7 ds) (rts0 A) := qt_of (by simp (disch := with_unfolding_all
  obtain ⟨r, s, rfl, hr, gs, ls, h1, h2⟩ := h
  unfold t__law_bent
  have h12 : (r : Int) = 1 ∨ (r : Int) = 2 := by omega
  refine sw_seq ?_
  walk_at "s"
  refine ⟨by decide, _, rfl, ?_⟩
  walk_at "s"
  rename_i v v0 v1
  obtain ⟨z, az, mz⟩ := atI_some (xs := wild5) v0 v1
  refine ⟨z, az, ?_⟩
  obtain ⟨z1, z2, z3, z4⟩ := wild5_lot z mz
  walk_at "s"
  refine sw_seq ?_
  walk_at "s"
  refine ⟨by simp, ?_⟩
  walk_at "s"
  refine ⟨by simp, ?_⟩
  walk_at "s"
  refine sw_seq ?_
  walk_at "s"
  rename_i k k0 k1
  refine sw_seq ?_
  walk_at "s"
  refine cnd_d (fun hk => ?_) (fun hk => ?_)
  · walk_at "s"
    obtain ⟨b, ab, mb⟩ := atI_some (xs := [PyData.tuple [z, .list [frs s]], .tuple [.int 2], .tuple ([PyData.int 2, .list [frs s]] ++ [.int 1]), .list [PyData.int 2, .list [frs s]], z]) k0 (by simp; omega)
    refine ⟨b, ab, ?_⟩
    walk_at "s"
    refine h1 b ?_
    simp only [List.mem_cons, List.not_mem_nil, or_false] at mb
    rcases mb with rfl | rfl | rfl | rfl | rfl
    · exact .inr (.inr ⟨_, _, rfl, z1⟩)
    · exact .inr (.inl ⟨_, rfl, by decide⟩)
    · exact .inr (.inl ⟨_, rfl, by simp⟩)
    · exact .inl rfl
    · exact z2
  walk_at "s"
  refine sw_seq ?_
  walk_at "s"
  refine ⟨by simp, ?_⟩
  walk_at "s"
  rename_i s3 g3 l3
  have l3 : s3.length = 3 - r := by
    rw [l3]
    omega
  refine lcM (f := fr) fr (by omega) (unk1 rfl) (fun x mx => ?_) ?_
  · walk_at "s"
    rfl
  walk_at "s"
  refine ⟨by simp; omega, ?_⟩
  walk_at "s"
  refine ⟨by simp, ?_⟩
  walk_at "s"
  rename_i q q0 q1
  obtain ⟨b, ab, mb⟩ := atI_some (xs := [PyData.list [], .none, .list ([frs s] ++ [z]), .list [frs s3], .list [.tuple (s.map fr ++ [.int 3])]]) q0 q1
  refine ⟨b, ab, ?_⟩
  walk_at "s"
  refine h2 _ ⟨2, b, rfl, ?_⟩
  simp only [List.mem_cons, List.not_mem_nil, or_false] at mb
  have ts : tupLen (frs s) = (r : Int) := by show ((s.map fr).length : Int) = r; rw [List.length_map, ls]
  rcases mb with rfl | rfl | rfl | rfl | rfl
  · exact ⟨fun xs h => by cases h; decide, .inl rfl⟩
  · exact ⟨fun xs h => (by cases h), .inl rfl⟩
  · refine ⟨fun xs h => by cases h; simp, .inl ?_⟩
    show (!isSpot (tupLen (frs s)) (frs s) || ![z].all (isSpot (tupLen (frs s)))) = true
    rw [ts]
    have : isSpot (r : Int) z = false := by rcases h12 with e | e <;> rw [e] <;> assumption
    simp [this]
  · refine ⟨fun xs h => by cases h; simp, .inr ⟨14, 3 - r, [s3], by omega, rfl, spr_of (by omega) (fun t ht => ?_) (by simp) (by decide) (by simp) (by simp)⟩⟩
    rw [List.mem_singleton.mp ht]
    exact ⟨g3.mono (by decide), l3⟩
  · refine ⟨fun xs h => by cases h; simp, .inl ?_⟩
    show (!isSpot (((s.map fr ++ [PyData.int 3]).length : Int)) (.tuple (s.map fr ++ [.int 3])) || ![].all (isSpot (((s.map fr ++ [PyData.int 3]).length : Int)))) = true
    have e : isSpot (((s.map fr ++ [PyData.int 3]).length : Int)) (.tuple (s.map fr ++ [.int 3])) = false := by
      show (([1, 2] : List Int).contains _ && (_ && (s.map fr ++ [PyData.int 3]).all isPart)) = false
      have : (s.map fr ++ [PyData.int 3]).all isPart = false := by rw [List.all_append]; simp [isPart]
      rw [this, Bool.and_false, Bool.and_false]
    rw [e]
    rfl
  ) only [↓qt_eq])
end


end
namespace Law
def topS (i : Nat) : Stmt := PySem.Challenge.pw_umbrage_k19_lots_told.main.body.getD i (.Pass ⟨0, 0, 0, 0⟩)
def clsS (i j : Nat) : Stmt := match topS i with | .ClassDef _ _ _ b _ _ _ _ _ _ _ => b.getD j (.Pass ⟨0, 0, 0, 0⟩) | _ => .Pass ⟨0, 0, 0, 0⟩
abbrev si_Unfit : Stmt := clsS 1 0
theorem sci_Unfit : FnScope ["self", "word"] ["self", "word"] (defScope si_Unfit) := ⟨rfl, rfl, rfl, by decide +kernel, rfl, by decide +kernel, by decide +kernel⟩
abbrev si_OtherRoom : Stmt := clsS 4 0
theorem sci_OtherRoom : FnScope ["self"] ["self"] (defScope si_OtherRoom) := ⟨rfl, rfl, rfl, by decide +kernel, rfl, by decide +kernel, by decide +kernel⟩
abbrev si_BadLot : Stmt := clsS 3 0
theorem sci_BadLot : FnScope ["self"] ["self"] (defScope si_BadLot) := ⟨rfl, rfl, rfl, by decide +kernel, rfl, by decide +kernel, by decide +kernel⟩
abbrev si_BadSpot : Stmt := clsS 2 0
theorem sci_BadSpot : FnScope ["self"] ["self"] (defScope si_BadSpot) := ⟨rfl, rfl, rfl, by decide +kernel, rfl, by decide +kernel, by decide +kernel⟩
abbrev si_TooMany : Stmt := clsS 5 0
theorem sci_TooMany : FnScope ["self"] ["self"] (defScope si_TooMany) := ⟨rfl, rfl, rfl, by decide +kernel, rfl, by decide +kernel, by decide +kernel⟩
abbrev si_TooGreat : Stmt := clsS 6 0
theorem sci_TooGreat : FnScope ["self"] ["self"] (defScope si_TooGreat) := ⟨rfl, rfl, rfl, by decide +kernel, rfl, by decide +kernel, by decide +kernel⟩
abbrev si_Flat : Stmt := clsS 7 0
theorem sci_Flat : FnScope ["self"] ["self"] (defScope si_Flat) := ⟨rfl, rfl, rfl, by decide +kernel, rfl, by decide +kernel, by decide +kernel⟩
abbrev s__law_bag : Stmt := topS 40
theorem sc__law_bag : FnScope ["_law_script"] ["_law_script"] (defScope s__law_bag) := ⟨rfl, rfl, rfl, by decide +kernel, rfl, by decide +kernel, by decide +kernel⟩
abbrev s__law_pull : Stmt := topS 41
theorem sc__law_pull : FnScope ["_law_bag_here", "_law_size", "_law_cells", "_law_cell", "_law_spot_here"] ["_law_bag_here", "_law_size"] (defScope s__law_pull) := ⟨rfl, rfl, rfl, by decide +kernel, rfl, by decide +kernel, by decide +kernel⟩
abbrev s__law_room : Stmt := topS 62
theorem sc__law_room : FnScope ["_law_bag_here"] ["_law_bag_here"] (defScope s__law_room) := ⟨rfl, rfl, rfl, by decide +kernel, rfl, by decide +kernel, by decide +kernel⟩
abbrev s__law_gcd : Stmt := topS 43
theorem sc__law_gcd : FnScope ["_law_one", "_law_other", "_law_kept"] ["_law_one", "_law_other"] (defScope s__law_gcd) := ⟨rfl, rfl, rfl, by decide +kernel, rfl, by decide +kernel, by decide +kernel⟩
abbrev s__law_frac : Stmt := topS 44
theorem sc__law_frac : FnScope ["_law_above", "_law_below_here", "_law_divisor"] ["_law_above", "_law_below_here"] (defScope s__law_frac) := ⟨rfl, rfl, rfl, by decide +kernel, rfl, by decide +kernel, by decide +kernel⟩
abbrev s__law_part : Stmt := topS 50
theorem sc__law_part : FnScope ["_law_bag_here"] ["_law_bag_here"] (defScope s__law_part) := ⟨rfl, rfl, rfl, by decide +kernel, rfl, by decide +kernel, by decide +kernel⟩
abbrev s__law_spot : Stmt := topS 51
theorem sc__law_spot : FnScope ["_law_bag_here", "_law_rank", "_law_at"] ["_law_bag_here", "_law_rank"] (defScope s__law_spot) := ⟨rfl, rfl, rfl, by decide +kernel, rfl, by decide +kernel, by decide +kernel⟩
abbrev s__law_sub : Stmt := topS 46
theorem sc__law_sub : FnScope ["_law_one", "_law_other"] ["_law_one", "_law_other"] (defScope s__law_sub) := ⟨rfl, rfl, rfl, by decide +kernel, rfl, by decide +kernel, by decide +kernel⟩
abbrev s__law_add : Stmt := topS 45
theorem sc__law_add : FnScope ["_law_one", "_law_other"] ["_law_one", "_law_other"] (defScope s__law_add) := ⟨rfl, rfl, rfl, by decide +kernel, rfl, by decide +kernel, by decide +kernel⟩
abbrev s__law_mul : Stmt := topS 47
theorem sc__law_mul : FnScope ["_law_one", "_law_other"] ["_law_one", "_law_other"] (defScope s__law_mul) := ⟨rfl, rfl, rfl, by decide +kernel, rfl, by decide +kernel, by decide +kernel⟩
abbrev s__law_along : Stmt := topS 65
theorem sc__law_along : FnScope ["_law_one", "_law_two", "_law_share", "_law_steps", "_law_at"] ["_law_one", "_law_two", "_law_share"] (defScope s__law_along) := ⟨rfl, rfl, rfl, by decide +kernel, rfl, by decide +kernel, by decide +kernel⟩
abbrev s__law_spots : Stmt := topS 60
theorem sc__law_spots : FnScope ["_law_bag_here", "_law_rank", "_law_limit", "_law_many", "_law_found", "_law_kind", "_law_one", "_law_two", "_law_at"] ["_law_bag_here", "_law_rank", "_law_limit"] (defScope s__law_spots) := ⟨rfl, rfl, rfl, by decide +kernel, rfl, by decide +kernel, by decide +kernel⟩
abbrev s__law_rows : Stmt := topS 61
theorem sc__law_rows : FnScope ["_law_bag_here", "_law_rank", "_law_limit", "_law_corners", "_law_found", "_law_at", "_law_weight", "_law_row"] ["_law_bag_here", "_law_rank", "_law_limit", "_law_corners"] (defScope s__law_rows) := ⟨rfl, rfl, rfl, by decide +kernel, rfl, by decide +kernel, by decide +kernel⟩
abbrev s__law_below : Stmt := topS 56
theorem sc__law_below : FnScope ["_law_spots_here", "_law_found", "_law_spot_here", "_law_one"] ["_law_spots_here"] (defScope s__law_below) := ⟨rfl, rfl, rfl, by decide +kernel, rfl, by decide +kernel, by decide +kernel⟩
abbrev s__law_key : Stmt := topS 57
theorem sc__law_key : FnScope ["_law_spots_here", "_law_below_here", "_law_found", "_law_spot_here", "_law_one"] ["_law_spots_here", "_law_below_here"] (defScope s__law_key) := ⟨rfl, rfl, rfl, by decide +kernel, rfl, by decide +kernel, by decide +kernel⟩
abbrev s__law_rising : Stmt := topS 58
theorem sc__law_rising : FnScope ["_law_spots_here", "_law_below_here", "_law_keys", "_law_found", "_law_key_here", "_law_spot_here", "_law_one"] ["_law_spots_here"] (defScope s__law_rising) := ⟨rfl, rfl, rfl, by decide +kernel, rfl, by decide +kernel, by decide +kernel⟩
abbrev s__law_sign : Stmt := topS 48
theorem sc__law_sign : FnScope ["_law_number"] ["_law_number"] (defScope s__law_sign) := ⟨rfl, rfl, rfl, by decide +kernel, rfl, by decide +kernel, by decide +kernel⟩
abbrev s__law_det : Stmt := topS 53
theorem sc__law_det : FnScope ["_law_one", "_law_two", "_law_three", "_law_first", "_law_second"] ["_law_one", "_law_two", "_law_three"] (defScope s__law_det) := ⟨rfl, rfl, rfl, by decide +kernel, rfl, by decide +kernel, by decide +kernel⟩
abbrev s__law_hom : Stmt := topS 52
theorem sc__law_hom : FnScope ["_law_spot_here"] ["_law_spot_here"] (defScope s__law_hom) := ⟨rfl, rfl, rfl, by decide +kernel, rfl, by decide +kernel, by decide +kernel⟩
abbrev s__law_turn : Stmt := topS 54
theorem sc__law_turn : FnScope ["_law_one", "_law_two", "_law_three"] ["_law_one", "_law_two", "_law_three"] (defScope s__law_turn) := ⟨rfl, rfl, rfl, by decide +kernel, rfl, by decide +kernel, by decide +kernel⟩
abbrev s__law_cmp : Stmt := topS 49
theorem sc__law_cmp : FnScope ["_law_one", "_law_other"] ["_law_one", "_law_other"] (defScope s__law_cmp) := ⟨rfl, rfl, rfl, by decide +kernel, rfl, by decide +kernel, by decide +kernel⟩
abbrev s__law_between : Stmt := topS 55
theorem sc__law_between : FnScope ["_law_one", "_law_two", "_law_spot_here", "_law_at"] ["_law_one", "_law_two", "_law_spot_here"] (defScope s__law_between) := ⟨rfl, rfl, rfl, by decide +kernel, rfl, by decide +kernel, by decide +kernel⟩
abbrev s__law_next : Stmt := topS 63
theorem sc__law_next : FnScope ["_law_row", "_law_here", "_law_spot_here", "_law_one"] ["_law_row", "_law_here"] (defScope s__law_next) := ⟨rfl, rfl, rfl, by decide +kernel, rfl, by decide +kernel, by decide +kernel⟩
abbrev s__law_body : Stmt := topS 64
theorem sc__law_body : FnScope ["_law_spots_here", "_law_row", "_law_found", "_law_step", "_law_spot_here"] ["_law_spots_here"] (defScope s__law_body) := ⟨rfl, rfl, rfl, by decide +kernel, rfl, by decide +kernel, by decide +kernel⟩
abbrev s__law_lot : Stmt := topS 59
theorem sc__law_lot : FnScope ["_law_rows_here", "_law_rank", "_law_bodies", "_law_weights", "_law_corners", "_law_body_here", "_law_below_here", "_law_keys", "_law_ranked", "_law_weight", "_law_spots_here", "_law_at", "_law_key_here"] ["_law_rows_here", "_law_rank"] (defScope s__law_lot) := ⟨rfl, rfl, rfl, by decide +kernel, rfl, by decide +kernel, by decide +kernel⟩
abbrev s__law_like : Stmt := topS 42
theorem sc__law_like : FnScope ["_law_found", "_law_due", "_law_at"] ["_law_found", "_law_due"] (defScope s__law_like) := ⟨rfl, rfl, rfl, by decide +kernel, rfl, by decide +kernel, by decide +kernel⟩
abbrev s__law_bent : Stmt := topS 67
theorem sc__law_bent : FnScope ["_law_bag_here", "_law_row", "_law_rank", "_law_wild", "_law_bends", "_law_kind", "_law_spots_here", "_law_one"] ["_law_bag_here", "_law_row", "_law_rank"] (defScope s__law_bent) := ⟨rfl, rfl, rfl, by decide +kernel, rfl, by decide +kernel, by decide +kernel⟩
abbrev s_is_small : Stmt := topS 33
theorem sc_is_small : FnScope ["number", "limit"] ["number", "limit"] (defScope s_is_small) := ⟨rfl, rfl, rfl, by decide +kernel, rfl, by decide +kernel, by decide +kernel⟩
abbrev s_bounded : Stmt := topS 34
theorem sc_bounded : FnScope ["lot", "weight", "body", "corner", "one", "number"] ["lot"] (defScope s_bounded) := ⟨rfl, rfl, rfl, by decide +kernel, rfl, by decide +kernel, by decide +kernel⟩
abbrev s_shared : Stmt := topS 10
theorem sc_shared : FnScope ["one", "other"] ["one", "other"] (defScope s_shared) := ⟨rfl, rfl, rfl, by decide +kernel, rfl, by decide +kernel, by decide +kernel⟩
abbrev s_common_below : Stmt := topS 19
theorem sc_common_below : FnScope ["spots", "found", "spot", "above", "below"] ["spots"] (defScope s_common_below) := ⟨rfl, rfl, rfl, by decide +kernel, rfl, by decide +kernel, by decide +kernel⟩
abbrev s_whole_row : Stmt := topS 20
theorem sc_whole_row : FnScope ["spot", "common", "above", "below"] ["spot", "common"] (defScope s_whole_row) := ⟨rfl, rfl, rfl, by decide +kernel, rfl, by decide +kernel, by decide +kernel⟩
abbrev s_in_order : Stmt := topS 29
theorem sc_in_order : FnScope ["bodies", "common", "by_worth", "body", "key", "corner", "number"] ["bodies"] (defScope s_in_order) := ⟨rfl, rfl, rfl, by decide +kernel, rfl, by decide +kernel, by decide +kernel⟩
abbrev s_gathered : Stmt := topS 35
theorem sc_gathered : FnScope ["rows", "room", "weights", "left", "weight", "body"] ["rows", "room"] (defScope s_gathered) := ⟨rfl, rfl, rfl, by decide +kernel, rfl, by decide +kernel, by decide +kernel⟩
abbrev s_settled_lot : Stmt := topS 36
theorem sc_settled_lot : FnScope ["rows", "room"] ["rows", "room"] (defScope s_settled_lot) := ⟨rfl, rfl, rfl, by decide +kernel, rfl, by decide +kernel, by decide +kernel⟩
abbrev s_rising : Stmt := topS 21
theorem sc_rising : FnScope ["spots", "common", "by_worth", "spot", "key"] ["spots"] (defScope s_rising) := ⟨rfl, rfl, rfl, by decide +kernel, rfl, by decide +kernel, by decide +kernel⟩
abbrev s_order : Stmt := topS 15
theorem sc_order : FnScope ["one", "other", "gap"] ["one", "other"] (defScope s_order) := ⟨rfl, rfl, rfl, by decide +kernel, rfl, by decide +kernel, by decide +kernel⟩
abbrev s_part : Stmt := topS 11
theorem sc_part : FnScope ["above", "below", "divisor"] ["above", "below"] (defScope s_part) := ⟨rfl, rfl, rfl, by decide +kernel, rfl, by decide +kernel, by decide +kernel⟩
abbrev s_minus : Stmt := topS 13
theorem sc_minus : FnScope ["one", "other"] ["one", "other"] (defScope s_minus) := ⟨rfl, rfl, rfl, by decide +kernel, rfl, by decide +kernel, by decide +kernel⟩
abbrev s_times : Stmt := topS 14
theorem sc_times : FnScope ["one", "other"] ["one", "other"] (defScope s_times) := ⟨rfl, rfl, rfl, by decide +kernel, rfl, by decide +kernel, by decide +kernel⟩
abbrev s_across : Stmt := topS 23
theorem sc_across : FnScope ["one", "other"] ["one", "other"] (defScope s_across) := ⟨rfl, rfl, rfl, by decide +kernel, rfl, by decide +kernel, by decide +kernel⟩
abbrev s_step_from : Stmt := topS 22
theorem sc_step_from : FnScope ["one", "other", "first", "second"] ["one", "other"] (defScope s_step_from) := ⟨rfl, rfl, rfl, by decide +kernel, rfl, by decide +kernel, by decide +kernel⟩
abbrev s_side_of : Stmt := topS 24
theorem sc_side_of : FnScope ["start", "end", "spot"] ["start", "end", "spot"] (defScope s_side_of) := ⟨rfl, rfl, rfl, by decide +kernel, rfl, by decide +kernel, by decide +kernel⟩
abbrev s_hull_side : Stmt := topS 26
theorem sc_hull_side : FnScope ["spots", "found", "spot"] ["spots"] (defScope s_hull_side) := ⟨rfl, rfl, rfl, by decide +kernel, rfl, by decide +kernel, by decide +kernel⟩
abbrev s_corners_round : Stmt := topS 27
theorem sc_corners_round : FnScope ["spots", "row", "below", "above"] ["spots"] (defScope s_corners_round) := ⟨rfl, rfl, rfl, by decide +kernel, rfl, by decide +kernel, by decide +kernel⟩
abbrev s_is_whole : Stmt := topS 9
theorem sc_is_whole : FnScope ["thing"] ["thing"] (defScope s_is_whole) := ⟨rfl, rfl, rfl, by decide +kernel, rfl, by decide +kernel, by decide +kernel⟩
abbrev s_is_part : Stmt := topS 12
theorem sc_is_part : FnScope ["thing"] ["thing"] (defScope s_is_part) := ⟨rfl, rfl, rfl, by decide +kernel, rfl, by decide +kernel, by decide +kernel⟩
abbrev s_is_spot : Stmt := topS 18
theorem sc_is_spot : FnScope ["thing", "room", "one"] ["thing", "room"] (defScope s_is_spot) := ⟨rfl, rfl, rfl, by decide +kernel, rfl, by decide +kernel, by decide +kernel⟩
abbrev s_body_of : Stmt := topS 28
theorem sc_body_of : FnScope ["spots", "room", "first", "rest", "spot"] ["spots"] (defScope s_body_of) := ⟨rfl, rfl, rfl, by decide +kernel, rfl, by decide +kernel, by decide +kernel⟩
abbrev s_lot_of : Stmt := topS 38
theorem sc_lot_of : FnScope ["rows", "room", "found", "row", "body"] ["rows", "room"] (defScope s_lot_of) := ⟨rfl, rfl, rfl, by decide +kernel, rfl, by decide +kernel, by decide +kernel⟩
abbrev s__law_told : Stmt := topS 66
theorem sc__law_told : FnScope ["_law_rows_here", "_law_rank", "why"] ["_law_rows_here", "_law_rank"] (defScope s__law_told) := ⟨rfl, rfl, rfl, by decide +kernel, rfl, by decide +kernel, by decide +kernel⟩
abbrev s_nothing : Stmt := topS 37
theorem sc_nothing : FnScope ["room"] ["room"] (defScope s_nothing) := ⟨rfl, rfl, rfl, by decide +kernel, rfl, by decide +kernel, by decide +kernel⟩
abbrev s_law : Stmt := topS 68
theorem sc_law : FnScope ["_law_script", "_law_bag_here", "_law_rank", "_law_rows_here", "_law_handed", "_law_due", "_law_spoilt", "_law_word", "_law_first", "_law_turn_here", "_law_other", "_law_at", "_law_bent_here", "_law_found", "_law_weight", "_law_spots_here"] ["_law_script"] (defScope s_law) := ⟨rfl, rfl, rfl, by decide +kernel, rfl, by decide +kernel, by decide +kernel⟩
set_option genInjectivity false
set_option genSizeOf false
structure TX (K : Fg) (mg : Str → Option Value) where
  cs : Cs
  ox_Unfit : OxK K (cs "Unfit")
  kC_Unfit : PySem.W.keepIn K (.ref (cs "Unfit")) = true
  fI_Unfit : Addr
  dI_Unfit : FuncData
  FI_Unfit : FunD K "__init__" "Unfit.__init__" (defArgs si_Unfit) (defBody si_Unfit) (defScope si_Unfit) [V.str "Unfit"] [] fI_Unfit dI_Unfit
  i_Unfit : PySem.W.findIn K (.ref (cs "Unfit")) "__init__" = some (some (.ref fI_Unfit))
  ti_Unfit : PySem.W.typeIn K (.ref fI_Unfit) = some (.type "function")
  bi_Unfit : Binds K dI_Unfit ["self", "word"] []
  g_Unfit : mg "Unfit" = some (.ref (cs "Unfit"))
  xf_Unfit : XfC K (cs "Unfit")
  nw_Unfit_word : PySem.W.findIn K (.ref (cs "Unfit")) "word" = some none
  cf_Unfit : ClsF K cs "Unfit" ["word"]
  rd_Unfit : PySem.W.readsIn K (cs "Unfit") (.type "type") = true
  ga_Unfit : PySem.W.specialIn K (.ref (cs "Unfit")) "__getattribute__" = some (some (.builtin "type.__getattribute__"))
  fc_Unfit : PySem.W.findCls K (.ref (cs "Unfit")) (.type "type") "__init__" = some (.val (.ref fI_Unfit))
  ox_OtherRoom : OxK K (cs "OtherRoom")
  kC_OtherRoom : PySem.W.keepIn K (.ref (cs "OtherRoom")) = true
  fI_OtherRoom : Addr
  dI_OtherRoom : FuncData
  FI_OtherRoom : Fun K "__init__" "OtherRoom.__init__" si_OtherRoom fI_OtherRoom dI_OtherRoom
  i_OtherRoom : PySem.W.findIn K (.ref (cs "OtherRoom")) "__init__" = some (some (.ref fI_OtherRoom))
  ti_OtherRoom : PySem.W.typeIn K (.ref fI_OtherRoom) = some (.type "function")
  bi_OtherRoom : Binds K dI_OtherRoom ["self"] []
  g_OtherRoom : mg "OtherRoom" = some (.ref (cs "OtherRoom"))
  xf_OtherRoom : XfC K (cs "OtherRoom")
  nw_OtherRoom_word : PySem.W.findIn K (.ref (cs "OtherRoom")) "word" = some none
  cf_OtherRoom : ClsF K cs "OtherRoom" ["word"]
  ox_BadLot : OxK K (cs "BadLot")
  kC_BadLot : PySem.W.keepIn K (.ref (cs "BadLot")) = true
  fI_BadLot : Addr
  dI_BadLot : FuncData
  FI_BadLot : Fun K "__init__" "BadLot.__init__" si_BadLot fI_BadLot dI_BadLot
  i_BadLot : PySem.W.findIn K (.ref (cs "BadLot")) "__init__" = some (some (.ref fI_BadLot))
  ti_BadLot : PySem.W.typeIn K (.ref fI_BadLot) = some (.type "function")
  bi_BadLot : Binds K dI_BadLot ["self"] []
  g_BadLot : mg "BadLot" = some (.ref (cs "BadLot"))
  xf_BadLot : XfC K (cs "BadLot")
  nw_BadLot_word : PySem.W.findIn K (.ref (cs "BadLot")) "word" = some none
  cf_BadLot : ClsF K cs "BadLot" ["word"]
  ox_BadSpot : OxK K (cs "BadSpot")
  kC_BadSpot : PySem.W.keepIn K (.ref (cs "BadSpot")) = true
  fI_BadSpot : Addr
  dI_BadSpot : FuncData
  FI_BadSpot : Fun K "__init__" "BadSpot.__init__" si_BadSpot fI_BadSpot dI_BadSpot
  i_BadSpot : PySem.W.findIn K (.ref (cs "BadSpot")) "__init__" = some (some (.ref fI_BadSpot))
  ti_BadSpot : PySem.W.typeIn K (.ref fI_BadSpot) = some (.type "function")
  bi_BadSpot : Binds K dI_BadSpot ["self"] []
  g_BadSpot : mg "BadSpot" = some (.ref (cs "BadSpot"))
  xf_BadSpot : XfC K (cs "BadSpot")
  nw_BadSpot_word : PySem.W.findIn K (.ref (cs "BadSpot")) "word" = some none
  cf_BadSpot : ClsF K cs "BadSpot" ["word"]
  ox_TooMany : OxK K (cs "TooMany")
  kC_TooMany : PySem.W.keepIn K (.ref (cs "TooMany")) = true
  fI_TooMany : Addr
  dI_TooMany : FuncData
  FI_TooMany : Fun K "__init__" "TooMany.__init__" si_TooMany fI_TooMany dI_TooMany
  i_TooMany : PySem.W.findIn K (.ref (cs "TooMany")) "__init__" = some (some (.ref fI_TooMany))
  ti_TooMany : PySem.W.typeIn K (.ref fI_TooMany) = some (.type "function")
  bi_TooMany : Binds K dI_TooMany ["self"] []
  g_TooMany : mg "TooMany" = some (.ref (cs "TooMany"))
  xf_TooMany : XfC K (cs "TooMany")
  nw_TooMany_word : PySem.W.findIn K (.ref (cs "TooMany")) "word" = some none
  cf_TooMany : ClsF K cs "TooMany" ["word"]
  ox_TooGreat : OxK K (cs "TooGreat")
  kC_TooGreat : PySem.W.keepIn K (.ref (cs "TooGreat")) = true
  fI_TooGreat : Addr
  dI_TooGreat : FuncData
  FI_TooGreat : Fun K "__init__" "TooGreat.__init__" si_TooGreat fI_TooGreat dI_TooGreat
  i_TooGreat : PySem.W.findIn K (.ref (cs "TooGreat")) "__init__" = some (some (.ref fI_TooGreat))
  ti_TooGreat : PySem.W.typeIn K (.ref fI_TooGreat) = some (.type "function")
  bi_TooGreat : Binds K dI_TooGreat ["self"] []
  g_TooGreat : mg "TooGreat" = some (.ref (cs "TooGreat"))
  xf_TooGreat : XfC K (cs "TooGreat")
  nw_TooGreat_word : PySem.W.findIn K (.ref (cs "TooGreat")) "word" = some none
  cf_TooGreat : ClsF K cs "TooGreat" ["word"]
  ox_Flat : OxK K (cs "Flat")
  kC_Flat : PySem.W.keepIn K (.ref (cs "Flat")) = true
  fI_Flat : Addr
  dI_Flat : FuncData
  FI_Flat : Fun K "__init__" "Flat.__init__" si_Flat fI_Flat dI_Flat
  i_Flat : PySem.W.findIn K (.ref (cs "Flat")) "__init__" = some (some (.ref fI_Flat))
  ti_Flat : PySem.W.typeIn K (.ref fI_Flat) = some (.type "function")
  bi_Flat : Binds K dI_Flat ["self"] []
  g_Flat : mg "Flat" = some (.ref (cs "Flat"))
  xf_Flat : XfC K (cs "Flat")
  nw_Flat_word : PySem.W.findIn K (.ref (cs "Flat")) "word" = some none
  cf_Flat : ClsF K cs "Flat" ["word"]
  em_BadLot_BadLot : PySem.W.exmOne K (.ref (cs "BadLot")) (.ref (cs "BadLot")) = some true
  em_BadLot_OtherRoom : PySem.W.exmOne K (.ref (cs "BadLot")) (.ref (cs "OtherRoom")) = some false
  em_BadSpot_BadLot : PySem.W.exmOne K (.ref (cs "BadSpot")) (.ref (cs "BadLot")) = some false
  em_BadSpot_BadSpot : PySem.W.exmOne K (.ref (cs "BadSpot")) (.ref (cs "BadSpot")) = some true
  em_BadSpot_OtherRoom : PySem.W.exmOne K (.ref (cs "BadSpot")) (.ref (cs "OtherRoom")) = some false
  em_OtherRoom_OtherRoom : PySem.W.exmOne K (.ref (cs "OtherRoom")) (.ref (cs "OtherRoom")) = some true
  a__law_bag : Addr
  d__law_bag : FuncData
  F__law_bag : Fun K "_law_bag" "_law_bag" s__law_bag a__law_bag d__law_bag
  g__law_bag : mg "_law_bag" = some (.ref a__law_bag)
  b__law_bag : Binds K d__law_bag ["_law_script"] []
  a__law_pull : Addr
  d__law_pull : FuncData
  F__law_pull : Fun K "_law_pull" "_law_pull" s__law_pull a__law_pull d__law_pull
  g__law_pull : mg "_law_pull" = some (.ref a__law_pull)
  b__law_pull : Binds K d__law_pull ["_law_bag_here", "_law_size"] []
  a__law_room : Addr
  d__law_room : FuncData
  F__law_room : Fun K "_law_room" "_law_room" s__law_room a__law_room d__law_room
  g__law_room : mg "_law_room" = some (.ref a__law_room)
  b__law_room : Binds K d__law_room ["_law_bag_here"] []
  a__law_gcd : Addr
  d__law_gcd : FuncData
  F__law_gcd : Fun K "_law_gcd" "_law_gcd" s__law_gcd a__law_gcd d__law_gcd
  g__law_gcd : mg "_law_gcd" = some (.ref a__law_gcd)
  b__law_gcd : Binds K d__law_gcd ["_law_one", "_law_other"] []
  a__law_frac : Addr
  d__law_frac : FuncData
  F__law_frac : Fun K "_law_frac" "_law_frac" s__law_frac a__law_frac d__law_frac
  g__law_frac : mg "_law_frac" = some (.ref a__law_frac)
  b__law_frac : Binds K d__law_frac ["_law_above", "_law_below_here"] []
  a__law_part : Addr
  d__law_part : FuncData
  F__law_part : Fun K "_law_part" "_law_part" s__law_part a__law_part d__law_part
  g__law_part : mg "_law_part" = some (.ref a__law_part)
  b__law_part : Binds K d__law_part ["_law_bag_here"] []
  a__law_spot : Addr
  d__law_spot : FuncData
  F__law_spot : Fun K "_law_spot" "_law_spot" s__law_spot a__law_spot d__law_spot
  g__law_spot : mg "_law_spot" = some (.ref a__law_spot)
  b__law_spot : Binds K d__law_spot ["_law_bag_here", "_law_rank"] []
  a__law_sub : Addr
  d__law_sub : FuncData
  F__law_sub : Fun K "_law_sub" "_law_sub" s__law_sub a__law_sub d__law_sub
  g__law_sub : mg "_law_sub" = some (.ref a__law_sub)
  b__law_sub : Binds K d__law_sub ["_law_one", "_law_other"] []
  a__law_add : Addr
  d__law_add : FuncData
  F__law_add : Fun K "_law_add" "_law_add" s__law_add a__law_add d__law_add
  g__law_add : mg "_law_add" = some (.ref a__law_add)
  b__law_add : Binds K d__law_add ["_law_one", "_law_other"] []
  a__law_mul : Addr
  d__law_mul : FuncData
  F__law_mul : Fun K "_law_mul" "_law_mul" s__law_mul a__law_mul d__law_mul
  g__law_mul : mg "_law_mul" = some (.ref a__law_mul)
  b__law_mul : Binds K d__law_mul ["_law_one", "_law_other"] []
  a__law_along : Addr
  d__law_along : FuncData
  F__law_along : Fun K "_law_along" "_law_along" s__law_along a__law_along d__law_along
  g__law_along : mg "_law_along" = some (.ref a__law_along)
  b__law_along : Binds K d__law_along ["_law_one", "_law_two", "_law_share"] []
  a__law_spots : Addr
  d__law_spots : FuncData
  F__law_spots : Fun K "_law_spots" "_law_spots" s__law_spots a__law_spots d__law_spots
  g__law_spots : mg "_law_spots" = some (.ref a__law_spots)
  b__law_spots : Binds K d__law_spots ["_law_bag_here", "_law_rank", "_law_limit"] []
  a__law_rows : Addr
  d__law_rows : FuncData
  F__law_rows : Fun K "_law_rows" "_law_rows" s__law_rows a__law_rows d__law_rows
  g__law_rows : mg "_law_rows" = some (.ref a__law_rows)
  b__law_rows : Binds K d__law_rows ["_law_bag_here", "_law_rank", "_law_limit", "_law_corners"] []
  a__law_below : Addr
  d__law_below : FuncData
  F__law_below : Fun K "_law_below" "_law_below" s__law_below a__law_below d__law_below
  g__law_below : mg "_law_below" = some (.ref a__law_below)
  b__law_below : Binds K d__law_below ["_law_spots_here"] []
  a__law_key : Addr
  d__law_key : FuncData
  F__law_key : Fun K "_law_key" "_law_key" s__law_key a__law_key d__law_key
  g__law_key : mg "_law_key" = some (.ref a__law_key)
  b__law_key : Binds K d__law_key ["_law_spots_here", "_law_below_here"] []
  a__law_rising : Addr
  d__law_rising : FuncData
  F__law_rising : Fun K "_law_rising" "_law_rising" s__law_rising a__law_rising d__law_rising
  g__law_rising : mg "_law_rising" = some (.ref a__law_rising)
  b__law_rising : Binds K d__law_rising ["_law_spots_here"] []
  a__law_sign : Addr
  d__law_sign : FuncData
  F__law_sign : Fun K "_law_sign" "_law_sign" s__law_sign a__law_sign d__law_sign
  g__law_sign : mg "_law_sign" = some (.ref a__law_sign)
  b__law_sign : Binds K d__law_sign ["_law_number"] []
  a__law_det : Addr
  d__law_det : FuncData
  F__law_det : Fun K "_law_det" "_law_det" s__law_det a__law_det d__law_det
  g__law_det : mg "_law_det" = some (.ref a__law_det)
  b__law_det : Binds K d__law_det ["_law_one", "_law_two", "_law_three"] []
  a__law_hom : Addr
  d__law_hom : FuncData
  F__law_hom : Fun K "_law_hom" "_law_hom" s__law_hom a__law_hom d__law_hom
  g__law_hom : mg "_law_hom" = some (.ref a__law_hom)
  b__law_hom : Binds K d__law_hom ["_law_spot_here"] []
  a__law_turn : Addr
  d__law_turn : FuncData
  F__law_turn : Fun K "_law_turn" "_law_turn" s__law_turn a__law_turn d__law_turn
  g__law_turn : mg "_law_turn" = some (.ref a__law_turn)
  b__law_turn : Binds K d__law_turn ["_law_one", "_law_two", "_law_three"] []
  a__law_cmp : Addr
  d__law_cmp : FuncData
  F__law_cmp : Fun K "_law_cmp" "_law_cmp" s__law_cmp a__law_cmp d__law_cmp
  g__law_cmp : mg "_law_cmp" = some (.ref a__law_cmp)
  b__law_cmp : Binds K d__law_cmp ["_law_one", "_law_other"] []
  a__law_between : Addr
  d__law_between : FuncData
  F__law_between : Fun K "_law_between" "_law_between" s__law_between a__law_between d__law_between
  g__law_between : mg "_law_between" = some (.ref a__law_between)
  b__law_between : Binds K d__law_between ["_law_one", "_law_two", "_law_spot_here"] []
  a__law_next : Addr
  d__law_next : FuncData
  F__law_next : Fun K "_law_next" "_law_next" s__law_next a__law_next d__law_next
  g__law_next : mg "_law_next" = some (.ref a__law_next)
  b__law_next : Binds K d__law_next ["_law_row", "_law_here"] []
  a__law_body : Addr
  d__law_body : FuncData
  F__law_body : Fun K "_law_body" "_law_body" s__law_body a__law_body d__law_body
  g__law_body : mg "_law_body" = some (.ref a__law_body)
  b__law_body : Binds K d__law_body ["_law_spots_here"] []
  a__law_lot : Addr
  d__law_lot : FuncData
  F__law_lot : Fun K "_law_lot" "_law_lot" s__law_lot a__law_lot d__law_lot
  g__law_lot : mg "_law_lot" = some (.ref a__law_lot)
  b__law_lot : Binds K d__law_lot ["_law_rows_here", "_law_rank"] []
  a__law_like : Addr
  d__law_like : FuncData
  F__law_like : Fun K "_law_like" "_law_like" s__law_like a__law_like d__law_like
  g__law_like : mg "_law_like" = some (.ref a__law_like)
  b__law_like : Binds K d__law_like ["_law_found", "_law_due"] []
  a__law_bent : Addr
  d__law_bent : FuncData
  F__law_bent : Fun K "_law_bent" "_law_bent" s__law_bent a__law_bent d__law_bent
  g__law_bent : mg "_law_bent" = some (.ref a__law_bent)
  b__law_bent : Binds K d__law_bent ["_law_bag_here", "_law_row", "_law_rank"] []
  a_is_small : Addr
  d_is_small : FuncData
  F_is_small : FunD K "is_small" "is_small" (defArgs s_is_small) (defBody s_is_small) (defScope s_is_small) [] [("limit", V.int 1000000000000000000)] a_is_small d_is_small
  g_is_small : mg "is_small" = some (.ref a_is_small)
  kb_is_small : KBn K d_is_small ["number", "limit"] 1 ["limit"] (fun us ws => us ++ ws) (fun vs zs => vs ++ zs)
  e1_is_small : List Value
  v1_is_small : Vals [V.int 1000000000000000000] e1_is_small
  b1_is_small : Binds K d_is_small ["number", "limit"] e1_is_small
  a_bounded : Addr
  d_bounded : FuncData
  F_bounded : Fun K "bounded" "bounded" s_bounded a_bounded d_bounded
  g_bounded : mg "bounded" = some (.ref a_bounded)
  b_bounded : Binds K d_bounded ["lot"] []
  a_shared : Addr
  d_shared : FuncData
  F_shared : Fun K "shared" "shared" s_shared a_shared d_shared
  g_shared : mg "shared" = some (.ref a_shared)
  b_shared : Binds K d_shared ["one", "other"] []
  a_common_below : Addr
  d_common_below : FuncData
  F_common_below : Fun K "common_below" "common_below" s_common_below a_common_below d_common_below
  g_common_below : mg "common_below" = some (.ref a_common_below)
  b_common_below : Binds K d_common_below ["spots"] []
  a_whole_row : Addr
  d_whole_row : FuncData
  F_whole_row : Fun K "whole_row" "whole_row" s_whole_row a_whole_row d_whole_row
  g_whole_row : mg "whole_row" = some (.ref a_whole_row)
  b_whole_row : Binds K d_whole_row ["spot", "common"] []
  a_in_order : Addr
  d_in_order : FuncData
  F_in_order : Fun K "in_order" "in_order" s_in_order a_in_order d_in_order
  g_in_order : mg "in_order" = some (.ref a_in_order)
  b_in_order : Binds K d_in_order ["bodies"] []
  a_gathered : Addr
  d_gathered : FuncData
  F_gathered : Fun K "gathered" "gathered" s_gathered a_gathered d_gathered
  g_gathered : mg "gathered" = some (.ref a_gathered)
  b_gathered : Binds K d_gathered ["rows", "room"] []
  a_settled_lot : Addr
  d_settled_lot : FuncData
  F_settled_lot : Fun K "settled_lot" "settled_lot" s_settled_lot a_settled_lot d_settled_lot
  g_settled_lot : mg "settled_lot" = some (.ref a_settled_lot)
  b_settled_lot : Binds K d_settled_lot ["rows", "room"] []
  a_rising : Addr
  d_rising : FuncData
  F_rising : Fun K "rising" "rising" s_rising a_rising d_rising
  g_rising : mg "rising" = some (.ref a_rising)
  b_rising : Binds K d_rising ["spots"] []
  a_order : Addr
  d_order : FuncData
  F_order : Fun K "order" "order" s_order a_order d_order
  g_order : mg "order" = some (.ref a_order)
  b_order : Binds K d_order ["one", "other"] []
  a_part : Addr
  d_part : FuncData
  F_part : FunD K "part" "part" (defArgs s_part) (defBody s_part) (defScope s_part) [V.int 1] [] a_part d_part
  g_part : mg "part" = some (.ref a_part)
  b_part : Binds K d_part ["above", "below"] []
  e1_part : List Value
  v1_part : Vals [V.int 1] e1_part
  b1_part : Binds K d_part ["above", "below"] e1_part
  a_minus : Addr
  d_minus : FuncData
  F_minus : Fun K "minus" "minus" s_minus a_minus d_minus
  g_minus : mg "minus" = some (.ref a_minus)
  b_minus : Binds K d_minus ["one", "other"] []
  a_times : Addr
  d_times : FuncData
  F_times : Fun K "times" "times" s_times a_times d_times
  g_times : mg "times" = some (.ref a_times)
  b_times : Binds K d_times ["one", "other"] []
  a_across : Addr
  d_across : FuncData
  F_across : Fun K "across" "across" s_across a_across d_across
  g_across : mg "across" = some (.ref a_across)
  b_across : Binds K d_across ["one", "other"] []
  a_step_from : Addr
  d_step_from : FuncData
  F_step_from : Fun K "step_from" "step_from" s_step_from a_step_from d_step_from
  g_step_from : mg "step_from" = some (.ref a_step_from)
  b_step_from : Binds K d_step_from ["one", "other"] []
  a_side_of : Addr
  d_side_of : FuncData
  F_side_of : Fun K "side_of" "side_of" s_side_of a_side_of d_side_of
  g_side_of : mg "side_of" = some (.ref a_side_of)
  b_side_of : Binds K d_side_of ["start", "end", "spot"] []
  a_hull_side : Addr
  d_hull_side : FuncData
  F_hull_side : Fun K "hull_side" "hull_side" s_hull_side a_hull_side d_hull_side
  g_hull_side : mg "hull_side" = some (.ref a_hull_side)
  b_hull_side : Binds K d_hull_side ["spots"] []
  a_corners_round : Addr
  d_corners_round : FuncData
  F_corners_round : Fun K "corners_round" "corners_round" s_corners_round a_corners_round d_corners_round
  g_corners_round : mg "corners_round" = some (.ref a_corners_round)
  b_corners_round : Binds K d_corners_round ["spots"] []
  a_is_whole : Addr
  d_is_whole : FuncData
  F_is_whole : Fun K "is_whole" "is_whole" s_is_whole a_is_whole d_is_whole
  g_is_whole : mg "is_whole" = some (.ref a_is_whole)
  b_is_whole : Binds K d_is_whole ["thing"] []
  a_is_part : Addr
  d_is_part : FuncData
  F_is_part : Fun K "is_part" "is_part" s_is_part a_is_part d_is_part
  g_is_part : mg "is_part" = some (.ref a_is_part)
  b_is_part : Binds K d_is_part ["thing"] []
  a_is_spot : Addr
  d_is_spot : FuncData
  F_is_spot : FunD K "is_spot" "is_spot" (defArgs s_is_spot) (defBody s_is_spot) (defScope s_is_spot) [] [("room", V.int 2)] a_is_spot d_is_spot
  g_is_spot : mg "is_spot" = some (.ref a_is_spot)
  kb_is_spot : KBn K d_is_spot ["thing", "room"] 1 ["room"] (fun us ws => us ++ ws) (fun vs zs => vs ++ zs)
  e1_is_spot : List Value
  v1_is_spot : Vals [V.int 2] e1_is_spot
  b1_is_spot : Binds K d_is_spot ["thing", "room"] e1_is_spot
  a_body_of : Addr
  d_body_of : FuncData
  F_body_of : Fun K "body_of" "body_of" s_body_of a_body_of d_body_of
  g_body_of : mg "body_of" = some (.ref a_body_of)
  b_body_of : Binds K d_body_of ["spots"] []
  a_lot_of : Addr
  d_lot_of : FuncData
  F_lot_of : FunD K "lot_of" "lot_of" (defArgs s_lot_of) (defBody s_lot_of) (defScope s_lot_of) [] [("room", V.int 2)] a_lot_of d_lot_of
  g_lot_of : mg "lot_of" = some (.ref a_lot_of)
  kb_lot_of : KBn K d_lot_of ["rows", "room"] 1 ["room"] (fun us ws => us ++ ws) (fun vs zs => vs ++ zs)
  e1_lot_of : List Value
  v1_lot_of : Vals [V.int 2] e1_lot_of
  b1_lot_of : Binds K d_lot_of ["rows", "room"] e1_lot_of
  a__law_told : Addr
  d__law_told : FuncData
  F__law_told : Fun K "_law_told" "_law_told" s__law_told a__law_told d__law_told
  g__law_told : mg "_law_told" = some (.ref a__law_told)
  b__law_told : Binds K d__law_told ["_law_rows_here", "_law_rank"] []
  a_nothing : Addr
  d_nothing : FuncData
  F_nothing : FunD K "nothing" "nothing" (defArgs s_nothing) (defBody s_nothing) (defScope s_nothing) [V.int 2] [] a_nothing d_nothing
  g_nothing : mg "nothing" = some (.ref a_nothing)
  b_nothing : Binds K d_nothing ["room"] []
  e1_nothing : List Value
  v1_nothing : Vals [V.int 2] e1_nothing
  b1_nothing : Binds K d_nothing ["room"] e1_nothing
  n_abs : mg "abs" = none
  n_all : mg "all" = none
  n_any : mg "any" = none
  n_bool : mg "bool" = none
  n_int : mg "int" = none
  n_isinstance : mg "isinstance" = none
  n_len : mg "len" = none
  n_list : mg "list" = none
  n_max : mg "max" = none
  n_range : mg "range" = none
  n_sorted : mg "sorted" = none
  n_str : mg "str" = none
  n_tuple : mg "tuple" = none
  n_zip : mg "zip" = none
  tk_MOST : Tok
  c_MOST : mg "MOST" = some (Value.int 2000 tk_MOST)
section
variable {Pg : Program} {w : World} {K : Fg} {mg : Str → Option Value} {base : Heap} {cs : Cs} {gs : Gs}
theorem ok_Unfit (T : TX K mg) : FnOk Pg w K mg base CX0 1 T.fI_Unfit T.dI_Unfit ["self", "word"] (spIn K ["word"] gWd) :=
  okWd T.FI_Unfit sci_Unfit (fun cdv A outer sh H E => (pss_one (ps_ox (pv 0) (pv 1))))
theorem ok_OtherRoom (T : TX K mg) : FnOk Pg w K mg base CX0 2 T.fI_OtherRoom T.dI_OtherRoom ["self"] (spIn K ["word"] (gCw "OtherRoom")) :=
  okSub "OtherRoom" T.FI_OtherRoom sci_OtherRoom (fun cdv A outer sh H E hr => (pss_one (ps_expr (pe_up (by rfl) T.g_Unfit T.rd_Unfit T.ga_Unfit T.fc_Unfit T.FI_Unfit.kp (ok_Unfit T) (hr.mono (by decide)) T.bi_Unfit .nil pass0 (pa_cons (pv 0) (pa_cons pe_str pa_nil))))))
theorem ok_BadLot (T : TX K mg) : FnOk Pg w K mg base CX0 2 T.fI_BadLot T.dI_BadLot ["self"] (spIn K ["word"] (gCw "BadLot")) :=
  okSub "BadLot" T.FI_BadLot sci_BadLot (fun cdv A outer sh H E hr => (pss_one (ps_expr (pe_up (by rfl) T.g_Unfit T.rd_Unfit T.ga_Unfit T.fc_Unfit T.FI_Unfit.kp (ok_Unfit T) (hr.mono (by decide)) T.bi_Unfit .nil pass0 (pa_cons (pv 0) (pa_cons pe_str pa_nil))))))
theorem ok_BadSpot (T : TX K mg) : FnOk Pg w K mg base CX0 2 T.fI_BadSpot T.dI_BadSpot ["self"] (spIn K ["word"] (gCw "BadSpot")) :=
  okSub "BadSpot" T.FI_BadSpot sci_BadSpot (fun cdv A outer sh H E hr => (pss_one (ps_expr (pe_up (by rfl) T.g_Unfit T.rd_Unfit T.ga_Unfit T.fc_Unfit T.FI_Unfit.kp (ok_Unfit T) (hr.mono (by decide)) T.bi_Unfit .nil pass0 (pa_cons (pv 0) (pa_cons pe_str pa_nil))))))
theorem ok_TooMany (T : TX K mg) : FnOk Pg w K mg base CX0 2 T.fI_TooMany T.dI_TooMany ["self"] (spIn K ["word"] (gCw "TooMany")) :=
  okSub "TooMany" T.FI_TooMany sci_TooMany (fun cdv A outer sh H E hr => (pss_one (ps_expr (pe_up (by rfl) T.g_Unfit T.rd_Unfit T.ga_Unfit T.fc_Unfit T.FI_Unfit.kp (ok_Unfit T) (hr.mono (by decide)) T.bi_Unfit .nil pass0 (pa_cons (pv 0) (pa_cons pe_str pa_nil))))))
theorem ok_TooGreat (T : TX K mg) : FnOk Pg w K mg base CX0 2 T.fI_TooGreat T.dI_TooGreat ["self"] (spIn K ["word"] (gCw "TooGreat")) :=
  okSub "TooGreat" T.FI_TooGreat sci_TooGreat (fun cdv A outer sh H E hr => (pss_one (ps_expr (pe_up (by rfl) T.g_Unfit T.rd_Unfit T.ga_Unfit T.fc_Unfit T.FI_Unfit.kp (ok_Unfit T) (hr.mono (by decide)) T.bi_Unfit .nil pass0 (pa_cons (pv 0) (pa_cons pe_str pa_nil))))))
theorem ok_Flat (T : TX K mg) : FnOk Pg w K mg base CX0 1 T.fI_Flat T.dI_Flat ["self"] (spIn K ["word"] gFlat) :=
  okFlat T.FI_Flat sci_Flat (fun cdv A outer sh H E => (pss_one (ps_ox (pv 0) pe_str)))
theorem ok__law_bag (T : TX K mg) : FnOk Pg w K mg base CX0 1 T.a__law_bag T.d__law_bag ["_law_script"] (spBag K) := qt_of (by simp (disch := with_unfolding_all
  refine T.F__law_bag.ok sc__law_bag (fun vs H Q E h => ?_) (fun cdv A outer sh H vs Q E hr h => ?_)
  · obtain ⟨W, ns, _, hd, _⟩ := h
    exact dpa_len hd
  · obtain ⟨W, ns, hW, hd, hl, q⟩ := h
    obtain ⟨v, rfl, dv⟩ := dp1 hd
    exact ⟨t__law_bag K, (pss_one (ps_ret (pe_lst (pa_cons (pe_callTy c_list (by rfl) T.n_list (by decide +kernel) (pa_cons (pe_slice sl_list (pv 0) po_none (po_some pe_int)) pa_nil)) (pa_cons pe_int (pa_cons pe_int pa_nil)))))), rd__law_bag dv hl q⟩
  ) only [↓qt_eq])
theorem ok__law_pull (T : TX K mg) : FnOk Pg w K mg base CX0 1 T.a__law_pull T.d__law_pull ["_law_bag_here", "_law_size"] (spB K P_pull) := qt_of (by simp (disch := with_unfolding_all
  refine T.F__law_pull.ok sc__law_pull (fun vs H Q E h => ?_) (fun cdv A outer sh H vs Q E hr h => ?_)
  · obtain ⟨W, b, c, us, s, ds, r, s', _, rfl, _, hd, hp, _⟩ := h
    rw [List.length_cons, dpa_len hd]
    exact ln__law_pull s ds r s' hp
  · obtain ⟨W, b, c, us, s, ds, r, s', hW, rfl, hB, hd, ⟨n, rfl, h0, h1, rfl, rfl⟩, q⟩ := h
    obtain ⟨v, rfl, dv⟩ := dp1 hd
    cases dv
    exact ⟨t__law_pull K, (pss_cons (ps_set (i := 2) sc__law_pull.nd rfl (by first | exact Or.inl rfl | exact Or.inr rfl) (pe_ix ix_seq (pv 0) pe_int (fun _ _ => rfl)))
      (pss_cons (ps_set (i := 3) sc__law_pull.nd rfl (by first | exact Or.inl rfl | exact Or.inr rfl) pe_int)
      (pss_cons (ps_if (pt_cmpR op_gt (pe_callB c_len (by rfl) T.n_len PySem.boot_len (pa_cons (pv 2) pa_nil)) pe_int (nomark _)) (pss_cons (ps_set (i := 4) sc__law_pull.nd rfl (by first | exact Or.inl rfl | exact Or.inr rfl) (pe_op op_modX (pe_ix ix_seq (pv 0) pe_int (fun _ _ => rfl)) (pe_callB c_len (by rfl) T.n_len PySem.boot_len (pa_cons (pv 2) pa_nil))))
      (pss_cons (ps_set (i := 3) sc__law_pull.nd rfl (by first | exact Or.inl rfl | exact Or.inr rfl) (pe_ix ix_seq (pv 2) (pv 4) (fun _ _ => rfl)))
      (pss_one (ps_if (pt_cmpR op_ge (pe_callB c_abs (by rfl) T.n_abs (by decide +kernel) (pa_cons (pv 3) pa_nil)) (pe_op op_pow pe_int pe_int) (nomark _)) (pss_cons (ps_asg (pe_op op_fdivX (pv 3) (pv 1)) (pg_sub (pv 2) (pv 4) set_list))
      (pss_one (ps_ret (pe_op op_modX (pv 3) (pv 1))))) pss_nil)))) pss_nil)
      (pss_cons (ps_asg (pe_op op_add (pe_ix ix_seq (pv 0) pe_int (fun _ _ => rfl)) pe_int) (pg_sub (pv 0) pe_int set_list))
      (pss_cons (ps_asg (pe_op op_modX (pe_op op_add (pe_op op_add (pe_op op_mulW (pe_ix ix_seq (pv 0) pe_int (fun _ _ => rfl)) pe_int) (pe_op op_modX (pv 3) pe_int)) (pe_ix ix_seq (pv 0) pe_int (fun _ _ => rfl))) pe_int) (pg_sub (pv 0) pe_int set_list))
      (pss_one (ps_ret (pe_op op_modX (pe_op op_fdivX (pe_op op_modX (pe_op op_add (pe_op op_mulW (pe_ix ix_seq (pv 0) pe_int (fun _ _ => rfl)) pe_int) (pe_op op_fdivX (pe_ix ix_seq (pv 0) pe_int (fun _ _ => rfl)) pe_int)) pe_int) pe_int) (pv 1))))))))), rd__law_pull hB h0 h1 q⟩
  ) only [↓qt_eq])
theorem ok__law_room (T : TX K mg) : FnOk Pg w K mg base CX0 2 T.a__law_room T.d__law_room ["_law_bag_here"] (spWB K P_room) :=
  okWB T.cs T.F__law_room sc__law_room ln__law_room (fun ds A h cdv Ar outer sh H E hr => ⟨t__law_room K, (pss_one (ps_ret (pe_op op_subI pe_int (pe_callTy c_int1 (by rfl) T.n_int (by decide +kernel) (pa_cons (pe_cmpR op_eq (pe_call (ok__law_pull T) (hr.mono (by decide)) (by rfl) T.g__law_pull T.F__law_pull.kp T.b__law_pull .nil pass0 (pa_cons (pv 0) (pa_cons pe_int pa_nil))) pe_int (nomark _)) pa_nil))))), rd__law_room h⟩)
theorem ok__law_gcd (T : TX K mg) : FnOk Pg w K mg base CX0 1 T.a__law_gcd T.d__law_gcd ["_law_one", "_law_other"] (spP K P_gcd) :=
  okP T.F__law_gcd sc__law_gcd ln__law_gcd (fun ds r h cdv A outer sh H E hr => ⟨t__law_gcd K, (pss_cons (ps_set (i := 0) sc__law_gcd.nd rfl (by first | exact Or.inl rfl | exact Or.inr rfl) (pe_callB c_abs (by rfl) T.n_abs (by decide +kernel) (pa_cons (pv 0) pa_nil)))
      (pss_cons (ps_set (i := 1) sc__law_gcd.nd rfl (by first | exact Or.inl rfl | exact Or.inr rfl) (pe_callB c_abs (by rfl) T.n_abs (by decide +kernel) (pa_cons (pv 1) pa_nil)))
      (pss_cons (ps_while PassesOwn.never (pt_cmpR op_gt (pv 1) pe_int (nomark _)) (pss_cons (ps_set (i := 2) sc__law_gcd.nd rfl (by first | exact Or.inl rfl | exact Or.inr rfl) (pv 1))
      (pss_cons (ps_set (i := 1) sc__law_gcd.nd rfl (by first | exact Or.inl rfl | exact Or.inr rfl) (pe_op op_modX (pv 0) (pv 1)))
      (pss_one (ps_set (i := 0) sc__law_gcd.nd rfl (by first | exact Or.inl rfl | exact Or.inr rfl) (pv 2))))))
      (pss_one (ps_ret (pe_callB (c_max2 rfl) (by rfl) T.n_max (by decide +kernel) (pa_cons pe_int (pa_cons (pv 0) pa_nil)))))))), rd__law_gcd h⟩)
theorem ok__law_frac (T : TX K mg) : FnOk Pg w K mg base CX0 2 T.a__law_frac T.d__law_frac ["_law_above", "_law_below_here"] (spP K P_frac) :=
  okP T.F__law_frac sc__law_frac ln__law_frac (fun ds r h cdv A outer sh H E hr => ⟨t__law_frac K, (pss_cons (ps_set (i := 2) sc__law_frac.nd rfl (by first | exact Or.inl rfl | exact Or.inr rfl) (pe_call (ok__law_gcd T) (hr.mono (by decide)) (by rfl) T.g__law_gcd T.F__law_gcd.kp T.b__law_gcd .nil pass0 (pa_cons (pv 0) (pa_cons (pv 1) pa_nil))))
      (pss_cons (ps_if (pt_cmpR op_lt (pv 1) pe_int (nomark _)) (pss_one (ps_set (i := 2) sc__law_frac.nd rfl (by first | exact Or.inl rfl | exact Or.inr rfl) (pe_un un_neg (pv 2)))) pss_nil)
      (pss_one (ps_ret (pe_tup (pa_cons (pe_op op_fdivX (pv 0) (pv 2)) (pa_cons (pe_op op_fdivX (pv 1) (pv 2)) pa_nil))))))), rd__law_frac h⟩)
theorem ok__law_part (T : TX K mg) : FnOk Pg w K mg base CX0 3 T.a__law_part T.d__law_part ["_law_bag_here"] (spB K P_part) :=
  okB T.F__law_part sc__law_part ln__law_part (fun s ds r s' h ok cdv A outer sh H E hr => ⟨t__law_part K, (pss_one (ps_ret (pe_call (ok__law_frac T) (hr.mono (by decide)) (by rfl) T.g__law_frac T.F__law_frac.kp T.b__law_frac .nil pass0 (pa_cons (pe_op op_sub (pe_call (ok__law_pull T) (hr.mono (by decide)) (by rfl) T.g__law_pull T.F__law_pull.kp T.b__law_pull .nil pass0 (pa_cons (pv 0) (pa_cons pe_int pa_nil))) pe_int) (pa_cons (pe_ix ix_seq (pe_lst (pa_cons pe_int (pa_cons pe_int (pa_cons pe_int (pa_cons pe_int pa_nil))))) (pe_call (ok__law_pull T) (hr.mono (by decide)) (by rfl) T.g__law_pull T.F__law_pull.kp T.b__law_pull .nil pass0 (pa_cons (pv 0) (pa_cons pe_int pa_nil))) (fun _ _ => rfl)) pa_nil))))), rd__law_part h ok⟩)
theorem ok__law_spot (T : TX K mg) : FnOk Pg w K mg base CX0 4 T.a__law_spot T.d__law_spot ["_law_bag_here", "_law_rank"] (spB K P_spot) :=
  okB T.F__law_spot sc__law_spot ln__law_spot (fun s ds r s' h ok cdv A outer sh H E hr => ⟨t__law_spot K, (pss_one (ps_ret (pe_callTy c_tuple (by rfl) T.n_tuple (by decide +kernel) (pa_cons (pe_lc (own := [("_law_at", 2)]) (g := (gName 2)) (tt := tYes) rfl sc__law_spot.nd (pi_range1 (by rfl) T.n_range (pa_cons (pv 1) pa_nil)) (blkOk_by (own := [("_law_at", 2)]) (N := ["_law_bag_here", "_law_rank", "_law_at"]) (sc := defScope s__law_spot) (by decide +kernel)) (fun _ _ _ _ _ => (pg_name (i := 2) sc__law_spot.nd rfl (by first | exact Or.inl rfl | exact Or.inr rfl))) (fun _ _ _ _ _ => pts_nil) (fun _ _ _ _ _ => (pe_call (ok__law_part T) (hr.mono (by decide)) (by rfl) T.g__law_part T.F__law_part.kp T.b__law_part .nil pass0 (pa_cons (pv 0) pa_nil)))) pa_nil)))), rd__law_spot h ok⟩)
theorem ok__law_sub (T : TX K mg) : FnOk Pg w K mg base CX0 3 T.a__law_sub T.d__law_sub ["_law_one", "_law_other"] (spP K P_lsub) :=
  okP T.F__law_sub sc__law_sub ln__law_sub (fun ds r h cdv A outer sh H E hr => ⟨t__law_sub K, (pss_one (ps_ret (pe_call (ok__law_frac T) (hr.mono (by decide)) (by rfl) T.g__law_frac T.F__law_frac.kp T.b__law_frac .nil pass0 (pa_cons (pe_op op_sub (pe_op op_mulW (pe_ix ix_seq (pv 0) pe_int (fun _ _ => rfl)) (pe_ix ix_seq (pv 1) pe_int (fun _ _ => rfl))) (pe_op op_mulW (pe_ix ix_seq (pv 1) pe_int (fun _ _ => rfl)) (pe_ix ix_seq (pv 0) pe_int (fun _ _ => rfl)))) (pa_cons (pe_op op_mulW (pe_ix ix_seq (pv 0) pe_int (fun _ _ => rfl)) (pe_ix ix_seq (pv 1) pe_int (fun _ _ => rfl))) pa_nil))))), rd__law_sub h⟩)
theorem ok__law_add (T : TX K mg) : FnOk Pg w K mg base CX0 3 T.a__law_add T.d__law_add ["_law_one", "_law_other"] (spP K P_add) :=
  okP T.F__law_add sc__law_add ln__law_add (fun ds r h cdv A outer sh H E hr => ⟨t__law_add K, (pss_one (ps_ret (pe_call (ok__law_frac T) (hr.mono (by decide)) (by rfl) T.g__law_frac T.F__law_frac.kp T.b__law_frac .nil pass0 (pa_cons (pe_op op_add (pe_op op_mulW (pe_ix ix_seq (pv 0) pe_int (fun _ _ => rfl)) (pe_ix ix_seq (pv 1) pe_int (fun _ _ => rfl))) (pe_op op_mulW (pe_ix ix_seq (pv 1) pe_int (fun _ _ => rfl)) (pe_ix ix_seq (pv 0) pe_int (fun _ _ => rfl)))) (pa_cons (pe_op op_mulW (pe_ix ix_seq (pv 0) pe_int (fun _ _ => rfl)) (pe_ix ix_seq (pv 1) pe_int (fun _ _ => rfl))) pa_nil))))), rd__law_add h⟩)
theorem ok__law_mul (T : TX K mg) : FnOk Pg w K mg base CX0 3 T.a__law_mul T.d__law_mul ["_law_one", "_law_other"] (spP K P_lmul) :=
  okP T.F__law_mul sc__law_mul ln__law_mul (fun ds r h cdv A outer sh H E hr => ⟨t__law_mul K, (pss_one (ps_ret (pe_call (ok__law_frac T) (hr.mono (by decide)) (by rfl) T.g__law_frac T.F__law_frac.kp T.b__law_frac .nil pass0 (pa_cons (pe_op op_mulW (pe_ix ix_seq (pv 0) pe_int (fun _ _ => rfl)) (pe_ix ix_seq (pv 1) pe_int (fun _ _ => rfl))) (pa_cons (pe_op op_mulW (pe_ix ix_seq (pv 0) pe_int (fun _ _ => rfl)) (pe_ix ix_seq (pv 1) pe_int (fun _ _ => rfl))) pa_nil))))), rd__law_mul h⟩)
theorem ok__law_along (T : TX K mg) : FnOk Pg w K mg base CX0 4 T.a__law_along T.d__law_along ["_law_one", "_law_two", "_law_share"] (spP K P_along) :=
  okP T.F__law_along sc__law_along ln__law_along (fun ds r h cdv A outer sh H E hr => ⟨t__law_along K, (pss_cons (ps_set (i := 3) sc__law_along.nd rfl (by first | exact Or.inl rfl | exact Or.inr rfl) (pe_lc (own := [("_law_at", 4)]) (g := (gName 4)) (tt := tYes) rfl sc__law_along.nd (pi_range1 (by rfl) T.n_range (pa_cons (pe_callB c_len (by rfl) T.n_len PySem.boot_len (pa_cons (pv 0) pa_nil)) pa_nil)) (blkOk_by (own := [("_law_at", 4)]) (N := ["_law_one", "_law_two", "_law_share", "_law_steps", "_law_at"]) (sc := defScope s__law_along) (by decide +kernel)) (fun _ _ _ _ _ => (pg_name (i := 4) sc__law_along.nd rfl (by first | exact Or.inl rfl | exact Or.inr rfl))) (fun _ _ _ _ _ => pts_nil) (fun _ _ _ _ _ => (pe_call (ok__law_sub T) (hr.mono (by decide)) (by rfl) T.g__law_sub T.F__law_sub.kp T.b__law_sub .nil pass0 (pa_cons (pe_ix ix_seq (pv 1) (pv 4) (fun _ _ => rfl)) (pa_cons (pe_ix ix_seq (pv 0) (pv 4) (fun _ _ => rfl)) pa_nil))))))
      (pss_one (ps_ret (pe_callTy c_tuple (by rfl) T.n_tuple (by decide +kernel) (pa_cons (pe_lc (own := [("_law_at", 4)]) (g := (gName 4)) (tt := tYes) rfl sc__law_along.nd (pi_range1 (by rfl) T.n_range (pa_cons (pe_callB c_len (by rfl) T.n_len PySem.boot_len (pa_cons (pv 0) pa_nil)) pa_nil)) (blkOk_by (own := [("_law_at", 4)]) (N := ["_law_one", "_law_two", "_law_share", "_law_steps", "_law_at"]) (sc := defScope s__law_along) (by decide +kernel)) (fun _ _ _ _ _ => (pg_name (i := 4) sc__law_along.nd rfl (by first | exact Or.inl rfl | exact Or.inr rfl))) (fun _ _ _ _ _ => pts_nil) (fun _ _ _ _ _ => (pe_call (ok__law_add T) (hr.mono (by decide)) (by rfl) T.g__law_add T.F__law_add.kp T.b__law_add .nil pass0 (pa_cons (pe_ix ix_seq (pv 0) (pv 4) (fun _ _ => rfl)) (pa_cons (pe_call (ok__law_mul T) (hr.mono (by decide)) (by rfl) T.g__law_mul T.F__law_mul.kp T.b__law_mul .nil pass0 (pa_cons (pv 2) (pa_cons (pe_ix ix_seq (pv 3) (pv 4) (fun _ _ => rfl)) pa_nil))) pa_nil))))) pa_nil))))), rd__law_along h⟩)
theorem ok__law_spots (T : TX K mg) : FnOk Pg w K mg base CX0 5 T.a__law_spots T.d__law_spots ["_law_bag_here", "_law_rank", "_law_limit"] (spWB K P_lspots) :=
  okWB T.cs T.F__law_spots sc__law_spots ln__law_spots (fun ds A h cdv Ar outer sh H E hr => ⟨t__law_spots K, (pss_cons (ps_set (i := 3) sc__law_spots.nd rfl (by first | exact Or.inl rfl | exact Or.inr rfl) (pe_op op_addI pe_int (pe_call (ok__law_pull T) (hr.mono (by decide)) (by rfl) T.g__law_pull T.F__law_pull.kp T.b__law_pull .nil pass0 (pa_cons (pv 0) (pa_cons (pv 2) pa_nil)))))
      (pss_cons (ps_setLc (i := 4) (own := [("_law_at", 8)]) (g := (gName 8)) (tt := tYes) rfl sc__law_spots.nd rfl rfl (sw_true rfl rfl rfl (by decide +kernel)) (pi_range1 (by rfl) T.n_range (pa_cons (pv 3) pa_nil)) (blkOk_by (own := [("_law_at", 8)]) (N := ["_law_bag_here", "_law_rank", "_law_limit", "_law_many", "_law_found", "_law_kind", "_law_one", "_law_two", "_law_at"]) (sc := defScope s__law_spots) (by decide +kernel)) (fun _ _ _ _ _ => (pg_name (i := 8) sc__law_spots.nd rfl (by first | exact Or.inl rfl | exact Or.inr rfl))) (fun _ _ _ _ _ => pts_nil) (fun _ _ _ _ _ => (pe_call (ok__law_spot T) (hr.mono (by decide)) (by rfl) T.g__law_spot T.F__law_spot.kp T.b__law_spot .nil pass0 (pa_cons (pv 0) (pa_cons (pv 1) pa_nil)))))
      (pss_cons (ps_set (i := 5) sc__law_spots.nd rfl (by first | exact Or.inl rfl | exact Or.inr rfl) (pe_call (ok__law_pull T) (hr.mono (by decide)) (by rfl) T.g__law_pull T.F__law_pull.kp T.b__law_pull .nil pass0 (pa_cons (pv 0) (pa_cons pe_int pa_nil))))
      (pss_cons (ps_if (pt_cmpR op_eq (pv 5) pe_int (nomark _)) (pss_one (ps_expr (pe_bm PySem.F.plainAttrs_list PySem.F.slot_list_append PySem.F.type_list_append mt_append (pv 4) (pa_cons (pe_ix ix_seq (pv 4) (pe_call (ok__law_pull T) (hr.mono (by decide)) (by rfl) T.g__law_pull T.F__law_pull.kp T.b__law_pull .nil pass0 (pa_cons (pv 0) (pa_cons (pv 3) pa_nil))) (fun _ _ => rfl)) pa_nil)))) pss_nil)
      (pss_cons (ps_if (pt_cmpR op_eq (pv 5) pe_int (nomark _)) (pss_cons (ps_set (i := 6) sc__law_spots.nd rfl (by first | exact Or.inl rfl | exact Or.inr rfl) (pe_ix ix_seq (pv 4) pe_int (fun _ _ => rfl)))
      (pss_cons (ps_set (i := 7) sc__law_spots.nd rfl (by first | exact Or.inl rfl | exact Or.inr rfl) (pe_ix ix_seq (pv 4) (pe_un un_negI pe_int) (fun _ _ => rfl)))
      (pss_one (ps_expr (pe_bm PySem.F.plainAttrs_list PySem.F.slot_list_append PySem.F.type_list_append mt_append (pv 4) (pa_cons (pe_call (ok__law_along T) (hr.mono (by decide)) (by rfl) T.g__law_along T.F__law_along.kp T.b__law_along .nil pass0 (pa_cons (pv 6) (pa_cons (pv 7) (pa_cons (pe_call (ok__law_frac T) (hr.mono (by decide)) (by rfl) T.g__law_frac T.F__law_frac.kp T.b__law_frac .nil pass0 (pa_cons (pe_call (ok__law_pull T) (hr.mono (by decide)) (by rfl) T.g__law_pull T.F__law_pull.kp T.b__law_pull .nil pass0 (pa_cons (pv 0) (pa_cons pe_int pa_nil))) (pa_cons pe_int pa_nil))) pa_nil)))) pa_nil)))))) pss_nil)
      (pss_one (ps_ret (pv 4)))))))), rd__law_spots h⟩)
theorem ok__law_rows (T : TX K mg) : FnOk Pg w K mg base CX0 6 T.a__law_rows T.d__law_rows ["_law_bag_here", "_law_rank", "_law_limit", "_law_corners"] (spWB K P_lrows) :=
  okWB T.cs T.F__law_rows sc__law_rows ln__law_rows (fun ds A h cdv Ar outer sh H E hr => ⟨t__law_rows K, (pss_cons (ps_set (i := 4) sc__law_rows.nd rfl (by first | exact Or.inl rfl | exact Or.inr rfl) (pe_lst pa_nil))
      (pss_cons (ps_for PassesOwn.never rfl (pi_range1 (by rfl) T.n_range (pa_cons (pe_call (ok__law_pull T) (hr.mono (by decide)) (by rfl) T.g__law_pull T.F__law_pull.kp T.b__law_pull .nil pass0 (pa_cons (pv 0) (pa_cons (pe_op op_addI (pv 2) pe_int) pa_nil))) pa_nil)) (pg_name (i := 5) sc__law_rows.nd rfl (by first | exact Or.inl rfl | exact Or.inr rfl)) (pss_cons (ps_set (i := 6) sc__law_rows.nd rfl (by first | exact Or.inl rfl | exact Or.inr rfl) (pe_ix ix_seq (pe_lst (pa_cons pe_int (pa_cons (pe_un un_negI pe_int) (pa_cons pe_int (pa_cons (pe_un un_negI pe_int) (pa_cons pe_int (pa_cons pe_int (pa_cons pe_int pa_nil)))))))) (pe_call (ok__law_pull T) (hr.mono (by decide)) (by rfl) T.g__law_pull T.F__law_pull.kp T.b__law_pull .nil pass0 (pa_cons (pv 0) (pa_cons pe_int pa_nil))) (fun _ _ => rfl)))
      (pss_one (ps_expr (pe_bm PySem.F.plainAttrs_list PySem.F.slot_list_append PySem.F.type_list_append mt_append (pv 4) (pa_cons (pe_tup (pa_cons (pv 6) (pa_cons (pe_call (ok__law_spots T) (hr.mono (by decide)) (by rfl) T.g__law_spots T.F__law_spots.kp T.b__law_spots .nil pass0 (pa_cons (pv 0) (pa_cons (pv 1) (pa_cons (pv 3) pa_nil)))) pa_nil))) pa_nil))))))
      (pss_cons (ps_if (PW.pt (pw_and (pt_cmpR op_gtI (pe_callB c_len (by rfl) T.n_len PySem.boot_len (pa_cons (pv 4) pa_nil)) pe_int (nomark _)) (pw_and1 (pt_cmpR op_eq (pe_call (ok__law_pull T) (hr.mono (by decide)) (by rfl) T.g__law_pull T.F__law_pull.kp T.b__law_pull .nil pass0 (pa_cons (pv 0) (pa_cons pe_int pa_nil))) pe_int (nomark _))))) (pss_cons (ps_set (i := 7) sc__law_rows.nd rfl (by first | exact Or.inl rfl | exact Or.inr rfl) (pe_ix ix_seq (pv 4) (pe_call (ok__law_pull T) (hr.mono (by decide)) (by rfl) T.g__law_pull T.F__law_pull.kp T.b__law_pull .nil pass0 (pa_cons (pv 0) (pa_cons (pe_callB c_len (by rfl) T.n_len PySem.boot_len (pa_cons (pv 4) pa_nil)) pa_nil))) (fun _ _ => rfl)))
      (pss_one (ps_expr (pe_bm PySem.F.plainAttrs_list PySem.F.slot_list_append PySem.F.type_list_append mt_append (pv 4) (pa_cons (pe_tup (pa_cons (pe_op op_subI pe_int (pe_call (ok__law_pull T) (hr.mono (by decide)) (by rfl) T.g__law_pull T.F__law_pull.kp T.b__law_pull .nil pass0 (pa_cons (pv 0) (pa_cons pe_int pa_nil)))) (pa_cons (pe_revL (pe_ix ix_seq (pv 7) pe_int (fun _ _ => rfl))) pa_nil))) pa_nil))))) pss_nil)
      (pss_one (ps_ret (pv 4)))))), rd__law_rows h⟩)
theorem ok__law_below (T : TX K mg) : FnOk Pg w K mg base CX0 2 T.a__law_below T.d__law_below ["_law_spots_here"] (spW0 K P_cb) :=
  okW T.cs T.F__law_below sc__law_below ln__law_below (fun ds A h cdv Ar outer sh H E hr => ⟨t__law_below K, (pss_cons (ps_set (i := 1) sc__law_below.nd rfl (by first | exact Or.inl rfl | exact Or.inr rfl) pe_int)
      (pss_cons (ps_for PassesOwn.never rfl (pi_seq (pv 0)) (pg_name (i := 2) sc__law_below.nd rfl (by first | exact Or.inl rfl | exact Or.inr rfl)) (pss_one (ps_for PassesOwn.never rfl (pi_tup (pv 2)) (pg_name (i := 3) sc__law_below.nd rfl (by first | exact Or.inl rfl | exact Or.inr rfl)) (pss_one (ps_set (i := 1) sc__law_below.nd rfl (by first | exact Or.inl rfl | exact Or.inr rfl) (pe_op op_divI (pe_op op_mulI (pv 1) (pe_ix ix_seq (pv 3) pe_int (fun _ _ => rfl))) (pe_call (ok__law_gcd T) (hr.mono (by decide)) (by rfl) T.g__law_gcd T.F__law_gcd.kp T.b__law_gcd .nil pass0 (pa_cons (pv 1) (pa_cons (pe_ix ix_seq (pv 3) pe_int (fun _ _ => rfl)) pa_nil)))))))))
      (pss_one (ps_ret (pv 1))))), rd__law_below h⟩)
theorem ok__law_key (T : TX K mg) : FnOk Pg w K mg base CX0 1 T.a__law_key T.d__law_key ["_law_spots_here", "_law_below_here"] (spW0 K P_lkey) :=
  okW T.cs T.F__law_key sc__law_key ln__law_key (fun ds A h cdv Ar outer sh H E hr => ⟨t__law_key K, (pss_cons (ps_set (i := 2) sc__law_key.nd rfl (by first | exact Or.inl rfl | exact Or.inr rfl) (pe_lst pa_nil))
      (pss_cons (ps_for PassesOwn.never rfl (pi_seq (pv 0)) (pg_name (i := 3) sc__law_key.nd rfl (by first | exact Or.inl rfl | exact Or.inr rfl)) (pss_one (ps_expr (pe_bm PySem.F.plainAttrs_list PySem.F.slot_list_extend PySem.F.type_list_extend mt_extend (pv 2) (pa_cons (pe_lc (own := [("_law_one", 4)]) (g := (gName 4)) (tt := tYes) rfl sc__law_key.nd (pi_tup (pv 3)) (blkOk_by (own := [("_law_one", 4)]) (N := ["_law_spots_here", "_law_below_here", "_law_found", "_law_spot_here", "_law_one"]) (sc := defScope s__law_key) (by decide +kernel)) (fun _ _ _ _ _ => (pg_name (i := 4) sc__law_key.nd rfl (by first | exact Or.inl rfl | exact Or.inr rfl))) (fun _ _ _ _ _ => pts_nil) (fun _ _ _ _ _ => (pe_op op_mulI (pe_ix ix_seq (pv 4) pe_int (fun _ _ => rfl)) (pe_op op_divI (pv 1) (pe_ix ix_seq (pv 4) pe_int (fun _ _ => rfl)))))) pa_nil)))))
      (pss_one (ps_ret (pv 2))))), rd__law_key h⟩)
theorem ok__law_rising (T : TX K mg) : FnOk Pg w K mg base CX0 3 T.a__law_rising T.d__law_rising ["_law_spots_here"] (spW0 K P_lrising) :=
  okW T.cs T.F__law_rising sc__law_rising ln__law_rising (fun ds A h cdv Ar outer sh H E hr => ⟨t__law_rising K, (pss_cons (ps_set (i := 1) sc__law_rising.nd rfl (by first | exact Or.inl rfl | exact Or.inr rfl) (pe_call (ok__law_below T) (hr.mono (by decide)) (by rfl) T.g__law_below T.F__law_below.kp T.b__law_below .nil pass0 (pa_cons (pv 0) pa_nil)))
      (pss_cons (ps_set (i := 2) sc__law_rising.nd rfl (by first | exact Or.inl rfl | exact Or.inr rfl) (pe_callB (cr_srtL hr.units) (by rfl) T.n_sorted (by decide +kernel) (pa_cons (pe_lc (own := [("_law_spot_here", 5)]) (g := (gName 5)) (tt := tYes) rfl sc__law_rising.nd (pi_seq (pv 0)) (blkOk_by (own := [("_law_spot_here", 5)]) (N := ["_law_spots_here", "_law_below_here", "_law_keys", "_law_found", "_law_key_here", "_law_spot_here", "_law_one"]) (sc := defScope s__law_rising) (by decide +kernel)) (fun _ _ _ _ _ => (pg_name (i := 5) sc__law_rising.nd rfl (by first | exact Or.inl rfl | exact Or.inr rfl))) (fun _ _ _ _ _ => pts_nil) (fun _ _ _ _ _ => (pe_call (ok__law_key T) (hr.mono (by decide)) (by rfl) T.g__law_key T.F__law_key.kp T.b__law_key .nil pass0 (pa_cons (pe_lst (pa_cons (pv 5) pa_nil)) (pa_cons (pv 1) pa_nil))))) pa_nil)))
      (pss_cons (ps_set (i := 3) sc__law_rising.nd rfl (by first | exact Or.inl rfl | exact Or.inr rfl) (pe_lst pa_nil))
      (pss_cons (ps_for PassesOwn.never rfl (pi_list (pv 2)) (pg_name (i := 4) sc__law_rising.nd rfl (by first | exact Or.inl rfl | exact Or.inr rfl)) (pss_cons (ps_set (i := 5) sc__law_rising.nd rfl (by first | exact Or.inl rfl | exact Or.inr rfl) (pe_callTy c_tuple (by rfl) T.n_tuple (by decide +kernel) (pa_cons (pe_lc (own := [("_law_one", 6)]) (g := (gName 6)) (tt := tYes) rfl sc__law_rising.nd (pi_list (pv 4)) (blkOk_by (own := [("_law_one", 6)]) (N := ["_law_spots_here", "_law_below_here", "_law_keys", "_law_found", "_law_key_here", "_law_spot_here", "_law_one"]) (sc := defScope s__law_rising) (by decide +kernel)) (fun _ _ _ _ _ => (pg_name (i := 6) sc__law_rising.nd rfl (by first | exact Or.inl rfl | exact Or.inr rfl))) (fun _ _ _ _ _ => pts_nil) (fun _ _ _ _ _ => (pe_call (ok__law_frac T) (hr.mono (by decide)) (by rfl) T.g__law_frac T.F__law_frac.kp T.b__law_frac .nil pass0 (pa_cons (pv 6) (pa_cons (pv 1) pa_nil))))) pa_nil)))
      (pss_one (ps_if (pt_cmpR (op_notInS (u65 hr)) (pv 5) (pv 3) (by rfl)) (pss_one (ps_expr (pe_bm PySem.F.plainAttrs_list PySem.F.slot_list_append PySem.F.type_list_append mt_append (pv 3) (pa_cons (pv 5) pa_nil)))) pss_nil))))
      (pss_one (ps_ret (pv 3))))))), rd__law_rising h⟩)
theorem ok__law_sign (T : TX K mg) : FnOk Pg w K mg base CX0 1 T.a__law_sign T.d__law_sign ["_law_number"] (spP K P_sign) :=
  okP T.F__law_sign sc__law_sign ln__law_sign (fun ds r h cdv A outer sh H E hr => ⟨t__law_sign K, (pss_one (ps_ret (pe_op op_sub (pe_callTy c_int1 (by rfl) T.n_int (by decide +kernel) (pa_cons (pe_cmpR op_gt (pv 0) pe_int (nomark _)) pa_nil)) (pe_callTy c_int1 (by rfl) T.n_int (by decide +kernel) (pa_cons (pe_cmpR op_lt (pv 0) pe_int (nomark _)) pa_nil))))), rd__law_sign h⟩)
theorem ok__law_det (T : TX K mg) : FnOk Pg w K mg base CX0 1 T.a__law_det T.d__law_det ["_law_one", "_law_two", "_law_three"] (spP K P_det) :=
  okP T.F__law_det sc__law_det ln__law_det (fun ds r h cdv A outer sh H E hr => ⟨t__law_det K, (pss_cons (ps_set (i := 3) sc__law_det.nd rfl (by first | exact Or.inl rfl | exact Or.inr rfl) (pe_op op_mulW (pe_ix ix_seq (pv 0) pe_int (fun _ _ => rfl)) (pe_op op_sub (pe_op op_mulW (pe_ix ix_seq (pv 1) pe_int (fun _ _ => rfl)) (pe_ix ix_seq (pv 2) pe_int (fun _ _ => rfl))) (pe_op op_mulW (pe_ix ix_seq (pv 1) pe_int (fun _ _ => rfl)) (pe_ix ix_seq (pv 2) pe_int (fun _ _ => rfl))))))
      (pss_cons (ps_set (i := 4) sc__law_det.nd rfl (by first | exact Or.inl rfl | exact Or.inr rfl) (pe_op op_mulW (pe_ix ix_seq (pv 0) pe_int (fun _ _ => rfl)) (pe_op op_sub (pe_op op_mulW (pe_ix ix_seq (pv 1) pe_int (fun _ _ => rfl)) (pe_ix ix_seq (pv 2) pe_int (fun _ _ => rfl))) (pe_op op_mulW (pe_ix ix_seq (pv 1) pe_int (fun _ _ => rfl)) (pe_ix ix_seq (pv 2) pe_int (fun _ _ => rfl))))))
      (pss_one (ps_ret (pe_op op_add (pe_op op_sub (pv 3) (pv 4)) (pe_op op_mulW (pe_ix ix_seq (pv 0) pe_int (fun _ _ => rfl)) (pe_op op_sub (pe_op op_mulW (pe_ix ix_seq (pv 1) pe_int (fun _ _ => rfl)) (pe_ix ix_seq (pv 2) pe_int (fun _ _ => rfl))) (pe_op op_mulW (pe_ix ix_seq (pv 1) pe_int (fun _ _ => rfl)) (pe_ix ix_seq (pv 2) pe_int (fun _ _ => rfl)))))))))), rd__law_det h⟩)
theorem ok__law_hom (T : TX K mg) : FnOk Pg w K mg base CX0 1 T.a__law_hom T.d__law_hom ["_law_spot_here"] (spP K P_hom) :=
  okP T.F__law_hom sc__law_hom ln__law_hom (fun ds r h cdv A outer sh H E hr => ⟨t__law_hom K, (pss_cons (ps_if (pt_cmpR op_eq (pe_callB c_len (by rfl) T.n_len PySem.boot_len (pa_cons (pv 0) pa_nil)) pe_int (nomark _)) (pss_one (ps_ret (pe_tup (pa_cons (pe_ix ix_seq (pe_ix ix_seq (pv 0) pe_int (fun _ _ => rfl)) pe_int (fun _ _ => rfl)) (pa_cons pe_int (pa_cons (pe_ix ix_seq (pe_ix ix_seq (pv 0) pe_int (fun _ _ => rfl)) pe_int (fun _ _ => rfl)) pa_nil)))))) pss_nil)
      (pss_one (ps_ret (pe_tup (pa_cons (pe_op op_mulW (pe_ix ix_seq (pe_ix ix_seq (pv 0) pe_int (fun _ _ => rfl)) pe_int (fun _ _ => rfl)) (pe_ix ix_seq (pe_ix ix_seq (pv 0) pe_int (fun _ _ => rfl)) pe_int (fun _ _ => rfl))) (pa_cons (pe_op op_mulW (pe_ix ix_seq (pe_ix ix_seq (pv 0) pe_int (fun _ _ => rfl)) pe_int (fun _ _ => rfl)) (pe_ix ix_seq (pe_ix ix_seq (pv 0) pe_int (fun _ _ => rfl)) pe_int (fun _ _ => rfl))) (pa_cons (pe_op op_mulW (pe_ix ix_seq (pe_ix ix_seq (pv 0) pe_int (fun _ _ => rfl)) pe_int (fun _ _ => rfl)) (pe_ix ix_seq (pe_ix ix_seq (pv 0) pe_int (fun _ _ => rfl)) pe_int (fun _ _ => rfl))) pa_nil))))))), rd__law_hom h⟩)
theorem ok__law_turn (T : TX K mg) : FnOk Pg w K mg base CX0 2 T.a__law_turn T.d__law_turn ["_law_one", "_law_two", "_law_three"] (spP K P_turn) :=
  okP T.F__law_turn sc__law_turn ln__law_turn (fun ds r h cdv A outer sh H E hr => ⟨t__law_turn K, (pss_one (ps_ret (pe_call (ok__law_sign T) (hr.mono (by decide)) (by rfl) T.g__law_sign T.F__law_sign.kp T.b__law_sign .nil pass0 (pa_cons (pe_call (ok__law_det T) (hr.mono (by decide)) (by rfl) T.g__law_det T.F__law_det.kp T.b__law_det .nil pass0 (pa_cons (pe_call (ok__law_hom T) (hr.mono (by decide)) (by rfl) T.g__law_hom T.F__law_hom.kp T.b__law_hom .nil pass0 (pa_cons (pv 0) pa_nil)) (pa_cons (pe_call (ok__law_hom T) (hr.mono (by decide)) (by rfl) T.g__law_hom T.F__law_hom.kp T.b__law_hom .nil pass0 (pa_cons (pv 1) pa_nil)) (pa_cons (pe_call (ok__law_hom T) (hr.mono (by decide)) (by rfl) T.g__law_hom T.F__law_hom.kp T.b__law_hom .nil pass0 (pa_cons (pv 2) pa_nil)) pa_nil)))) pa_nil)))), rd__law_turn h⟩)
theorem ok__law_cmp (T : TX K mg) : FnOk Pg w K mg base CX0 2 T.a__law_cmp T.d__law_cmp ["_law_one", "_law_other"] (spP K P_cmp) :=
  okP T.F__law_cmp sc__law_cmp ln__law_cmp (fun ds r h cdv A outer sh H E hr => ⟨t__law_cmp K, (pss_one (ps_ret (pe_call (ok__law_sign T) (hr.mono (by decide)) (by rfl) T.g__law_sign T.F__law_sign.kp T.b__law_sign .nil pass0 (pa_cons (pe_op op_sub (pe_op op_mulW (pe_ix ix_seq (pv 0) pe_int (fun _ _ => rfl)) (pe_ix ix_seq (pv 1) pe_int (fun _ _ => rfl))) (pe_op op_mulW (pe_ix ix_seq (pv 1) pe_int (fun _ _ => rfl)) (pe_ix ix_seq (pv 0) pe_int (fun _ _ => rfl)))) pa_nil)))), rd__law_cmp h⟩)
theorem ok__law_between (T : TX K mg) : FnOk Pg w K mg base CX0 3 T.a__law_between T.d__law_between ["_law_one", "_law_two", "_law_spot_here"] (spW0 K P_lbetween) :=
  okW T.cs T.F__law_between sc__law_between ln__law_between (fun ds A h cdv Ar outer sh H E hr => ⟨t__law_between K, (pss_cons (ps_for PassesOwn.never rfl (pi_range1 (by rfl) T.n_range (pa_cons (pe_callB c_len (by rfl) T.n_len PySem.boot_len (pa_cons (pv 2) pa_nil)) pa_nil)) (pg_name (i := 3) sc__law_between.nd rfl (by first | exact Or.inl rfl | exact Or.inr rfl)) (pss_one (ps_if (pt_cmpR op_gtI (pe_op op_mulI (pe_call (ok__law_cmp T) (hr.mono (by decide)) (by rfl) T.g__law_cmp T.F__law_cmp.kp T.b__law_cmp .nil pass0 (pa_cons (pe_ix ix_seq (pv 2) (pv 3) (fun _ _ => rfl)) (pa_cons (pe_ix ix_seq (pv 0) (pv 3) (fun _ _ => rfl)) pa_nil))) (pe_call (ok__law_cmp T) (hr.mono (by decide)) (by rfl) T.g__law_cmp T.F__law_cmp.kp T.b__law_cmp .nil pass0 (pa_cons (pe_ix ix_seq (pv 2) (pv 3) (fun _ _ => rfl)) (pa_cons (pe_ix ix_seq (pv 1) (pv 3) (fun _ _ => rfl)) pa_nil)))) pe_int (nomark _)) (pss_one (ps_ret pe_bl)) pss_nil)))
      (pss_one (ps_ret (pe_cmpR op_eq (pe_call (ok__law_turn T) (hr.mono (by decide)) (by rfl) T.g__law_turn T.F__law_turn.kp T.b__law_turn .nil pass0 (pa_cons (pv 0) (pa_cons (pv 1) (pa_cons (pv 2) pa_nil)))) pe_int (nomark _))))), rd__law_between h⟩)
theorem ok__law_next (T : TX K mg) : FnOk Pg w K mg base CX0 4 T.a__law_next T.d__law_next ["_law_row", "_law_here"] (spW0 K P_lnext) :=
  okW T.cs T.F__law_next sc__law_next ln__law_next (fun ds A h cdv Ar outer sh H E hr => ⟨t__law_next K, (pss_cons (ps_for PassesOwn.never rfl (pi_list (pv 0)) (pg_name (i := 2) sc__law_next.nd rfl (by first | exact Or.inl rfl | exact Or.inr rfl)) (pss_one (ps_if (PW.pt (pw_and (pt_cmpR (op_neD hr.units) (pv 2) (pv 1) (nomark _)) (pw_and1 (pt_val (pe_callB (cr_all rfl) (by rfl) T.n_all (by decide +kernel) (pa_cons (pe_lc (own := [("_law_one", 3)]) (g := (gName 3)) (tt := tYes) rfl sc__law_next.nd (pi_list (pv 0)) (blkOk_by (own := [("_law_one", 3)]) (N := ["_law_row", "_law_here", "_law_spot_here", "_law_one"]) (sc := defScope s__law_next) (by decide +kernel)) (fun _ _ _ _ _ => (pg_name (i := 3) sc__law_next.nd rfl (by first | exact Or.inl rfl | exact Or.inr rfl))) (fun _ _ _ _ _ => pts_nil) (fun _ _ _ _ _ => (pe_cmpR op_geI (pe_call (ok__law_turn T) (hr.mono (by decide)) (by rfl) T.g__law_turn T.F__law_turn.kp T.b__law_turn .nil pass0 (pa_cons (pv 1) (pa_cons (pv 2) (pa_cons (pv 3) pa_nil)))) pe_int (nomark _)))) pa_nil)))))) (pss_one (ps_if (pt_not (pt_val (pe_callB (cr_any rfl) (by rfl) T.n_any (by decide +kernel) (pa_cons (pe_lc (own := [("_law_one", 3)]) (g := (gName 3)) (tt := tYes) rfl sc__law_next.nd (pi_list (pv 0)) (blkOk_by (own := [("_law_one", 3)]) (N := ["_law_row", "_law_here", "_law_spot_here", "_law_one"]) (sc := defScope s__law_next) (by decide +kernel)) (fun _ _ _ _ _ => (pg_name (i := 3) sc__law_next.nd rfl (by first | exact Or.inl rfl | exact Or.inr rfl))) (fun _ _ _ _ _ => pts_nil) (fun _ _ _ _ _ => (pe_and (pe_cmpR (op_neD hr.units) (pv 3) (pv 2) (nomark _)) (pe_one (pe_call (ok__law_between T) (hr.mono (by decide)) (by rfl) T.g__law_between T.F__law_between.kp T.b__law_between .nil pass0 (pa_cons (pv 1) (pa_cons (pv 3) (pa_cons (pv 2) pa_nil)))))))) pa_nil)))) (pss_one (ps_ret (pv 2))) pss_nil)) pss_nil)))
      (pss_one (ps_ret (pv 1)))), rd__law_next h⟩)
theorem ok__law_body (T : TX K mg) : FnOk Pg w K mg base CX0 5 T.a__law_body T.d__law_body ["_law_spots_here"] (spW0 K P_corners) :=
  okW T.cs T.F__law_body sc__law_body ln__law_body (fun ds A h cdv Ar outer sh H E hr => ⟨t__law_body K, (pss_cons (ps_set (i := 1) sc__law_body.nd rfl (by first | exact Or.inl rfl | exact Or.inr rfl) (pe_call (ok__law_rising T) (hr.mono (by decide)) (by rfl) T.g__law_rising T.F__law_rising.kp T.b__law_rising .nil pass0 (pa_cons (pv 0) pa_nil)))
      (pss_cons (ps_set (i := 2) sc__law_body.nd rfl (by first | exact Or.inl rfl | exact Or.inr rfl) (pe_lst (pa_cons (pe_ix ix_seq (pv 1) pe_int (fun _ _ => rfl)) pa_nil)))
      (pss_cons (ps_for PassesOwn.never rfl (pi_range1 (by rfl) T.n_range (pa_cons (pe_callB c_len (by rfl) T.n_len PySem.boot_len (pa_cons (pv 1) pa_nil)) pa_nil)) (pg_name (i := 3) sc__law_body.nd rfl (by first | exact Or.inl rfl | exact Or.inr rfl)) (pss_cons (ps_set (i := 4) sc__law_body.nd rfl (by first | exact Or.inl rfl | exact Or.inr rfl) (pe_call (ok__law_next T) (hr.mono (by decide)) (by rfl) T.g__law_next T.F__law_next.kp T.b__law_next .nil pass0 (pa_cons (pv 1) (pa_cons (pe_ix ix_seq (pv 2) (pe_un un_negI pe_int) (fun _ _ => rfl)) pa_nil))))
      (pss_cons (ps_if (pt_cmpR (op_eqD hr.units) (pv 4) (pe_ix ix_seq (pv 2) pe_int (fun _ _ => rfl)) (nomark _)) (pss_one (ps_ret (pe_callTy c_tuple (by rfl) T.n_tuple (by decide +kernel) (pa_cons (pv 2) pa_nil)))) pss_nil)
      (pss_one (ps_expr (pe_bm PySem.F.plainAttrs_list PySem.F.slot_list_append PySem.F.type_list_append mt_append (pv 2) (pa_cons (pv 4) pa_nil)))))))
      (pss_one (ps_ret (pe_callTy c_tuple (by rfl) T.n_tuple (by decide +kernel) (pa_cons (pv 2) pa_nil))))))), rd__law_body h⟩)
theorem ok__law_lot (T : TX K mg) : FnOk Pg w K mg base CX0 6 T.a__law_lot T.d__law_lot ["_law_rows_here", "_law_rank"] (spW0 K P_llot) :=
  okW T.cs T.F__law_lot sc__law_lot ln__law_lot (fun ds A h cdv Ar outer sh H E hr => ⟨t__law_lot K, (pss_cons (ps_set (i := 2) sc__law_lot.nd rfl (by first | exact Or.inl rfl | exact Or.inr rfl) (pe_lst pa_nil))
      (pss_cons (ps_set (i := 3) sc__law_lot.nd rfl (by first | exact Or.inl rfl | exact Or.inr rfl) (pe_lst pa_nil))
      (pss_cons (ps_for PassesOwn.never rfl (pi_seq (pv 0)) (pg_tup rfl (pgs_cons (pg_name (i := 9) sc__law_lot.nd rfl (by first | exact Or.inl rfl | exact Or.inr rfl)) (pgs_cons (pg_name (i := 10) sc__law_lot.nd rfl (by first | exact Or.inl rfl | exact Or.inr rfl)) pgs_nil))) (pss_cons (ps_set (i := 5) sc__law_lot.nd rfl (by first | exact Or.inl rfl | exact Or.inr rfl) (pe_call (ok__law_body T) (hr.mono (by decide)) (by rfl) T.g__law_body T.F__law_body.kp T.b__law_body .nil pass0 (pa_cons (pv 10) pa_nil)))
      (pss_cons (ps_if (pt_cmpR (op_notInS (u65 hr)) (pv 5) (pv 2) (by rfl)) (pss_cons (ps_expr (pe_bm PySem.F.plainAttrs_list PySem.F.slot_list_append PySem.F.type_list_append mt_append (pv 2) (pa_cons (pv 5) pa_nil)))
      (pss_one (ps_expr (pe_bm PySem.F.plainAttrs_list PySem.F.slot_list_append PySem.F.type_list_append mt_append (pv 3) (pa_cons pe_int pa_nil))))) pss_nil)
      (pss_cons (ps_set (i := 11) sc__law_lot.nd rfl (by first | exact Or.inl rfl | exact Or.inr rfl) (pe_bm PySem.F.plainAttrs_list PySem.F.slot_list_index PySem.F.type_list_index (mt_indexD (u65 hr)) (pv 2) (pa_cons (pv 5) pa_nil)))
      (pss_one (ps_asg (pe_op op_addI (pe_ix ix_seq (pv 3) (pv 11) (fun _ _ => rfl)) (pv 9)) (pg_sub (pv 3) (pv 11) set_list)))))))
      (pss_cons (ps_set (i := 4) sc__law_lot.nd rfl (by first | exact Or.inl rfl | exact Or.inr rfl) (pe_lst pa_nil))
      (pss_cons (ps_for PassesOwn.never rfl (pi_list (pv 2)) (pg_name (i := 5) sc__law_lot.nd rfl (by first | exact Or.inl rfl | exact Or.inr rfl)) (pss_one (ps_expr (pe_bm PySem.F.plainAttrs_list PySem.F.slot_list_extend PySem.F.type_list_extend mt_extend (pv 4) (pa_cons (pe_callTy c_list (by rfl) T.n_list (by decide +kernel) (pa_cons (pv 5) pa_nil)) pa_nil)))))
      (pss_cons (ps_set (i := 6) sc__law_lot.nd rfl (by first | exact Or.inl rfl | exact Or.inr rfl) (pe_call (ok__law_below T) (hr.mono (by decide)) (by rfl) T.g__law_below T.F__law_below.kp T.b__law_below .nil pass0 (pa_cons (pv 4) pa_nil)))
      (pss_cons (ps_set (i := 7) sc__law_lot.nd rfl (by first | exact Or.inl rfl | exact Or.inr rfl) (pe_lc (own := [("_law_body_here", 5)]) (g := (gName 5)) (tt := tYes) rfl sc__law_lot.nd (pi_list (pv 2)) (blkOk_by (own := [("_law_body_here", 5)]) (N := ["_law_rows_here", "_law_rank", "_law_bodies", "_law_weights", "_law_corners", "_law_body_here", "_law_below_here", "_law_keys", "_law_ranked", "_law_weight", "_law_spots_here", "_law_at", "_law_key_here"]) (sc := defScope s__law_lot) (by decide +kernel)) (fun _ _ _ _ _ => (pg_name (i := 5) sc__law_lot.nd rfl (by first | exact Or.inl rfl | exact Or.inr rfl))) (fun _ _ _ _ _ => pts_nil) (fun _ _ _ _ _ => (pe_call (ok__law_key T) (hr.mono (by decide)) (by rfl) T.g__law_key T.F__law_key.kp T.b__law_key .nil pass0 (pa_cons (pv 5) (pa_cons (pv 6) pa_nil))))))
      (pss_cons (ps_set (i := 8) sc__law_lot.nd rfl (by first | exact Or.inl rfl | exact Or.inr rfl) (pe_callB (cr_srtL hr.units) (by rfl) T.n_sorted (by decide +kernel) (pa_cons (pe_lc (own := [("_law_at", 11)]) (g := (gName 11)) (tt := tYes) rfl sc__law_lot.nd (pi_range1 (by rfl) T.n_range (pa_cons (pe_callB c_len (by rfl) T.n_len PySem.boot_len (pa_cons (pv 2) pa_nil)) pa_nil)) (blkOk_by (own := [("_law_at", 11)]) (N := ["_law_rows_here", "_law_rank", "_law_bodies", "_law_weights", "_law_corners", "_law_body_here", "_law_below_here", "_law_keys", "_law_ranked", "_law_weight", "_law_spots_here", "_law_at", "_law_key_here"]) (sc := defScope s__law_lot) (by decide +kernel)) (fun _ _ _ _ _ => (pg_name (i := 11) sc__law_lot.nd rfl (by first | exact Or.inl rfl | exact Or.inr rfl))) (fun _ _ _ _ _ => pts_nil) (fun _ _ _ _ _ => (pe_tup (pa_cons (pe_ix ix_seq (pv 7) (pv 11) (fun _ _ => rfl)) (pa_cons (pv 11) pa_nil))))) pa_nil)))
      (pss_one (ps_ret (pe_tup (pa_cons (pv 1) (pa_cons (pe_callTy c_tuple (by rfl) T.n_tuple (by decide +kernel) (pa_cons (pe_lc (own := [("_law_key_here", 12), ("_law_at", 11)]) (g := (gTup K 2 (gCons (gName 12) (gCons (gName 11) gNil)))) (tt := (tTest (tOp rNe (tOp (rIx K) (tVar 3) (tVar 11)) (tC (V.int 0))))) rfl sc__law_lot.nd (pi_list (pv 8)) (blkOk_by (own := [("_law_key_here", 12), ("_law_at", 11)]) (N := ["_law_rows_here", "_law_rank", "_law_bodies", "_law_weights", "_law_corners", "_law_body_here", "_law_below_here", "_law_keys", "_law_ranked", "_law_weight", "_law_spots_here", "_law_at", "_law_key_here"]) (sc := defScope s__law_lot) (by decide +kernel)) (fun _ _ _ _ _ => (pg_tup rfl (pgs_cons (pg_name (i := 12) sc__law_lot.nd rfl (by first | exact Or.inl rfl | exact Or.inr rfl)) (pgs_cons (pg_name (i := 11) sc__law_lot.nd rfl (by first | exact Or.inl rfl | exact Or.inr rfl)) pgs_nil)))) (fun _ _ _ _ _ => pts_one (pt_cmpR op_ne (pe_ix ix_seq (pv 3) (pv 11) (fun _ _ => rfl)) pe_int (nomark _))) (fun _ _ _ _ _ => (pe_tup (pa_cons (pe_ix ix_seq (pv 3) (pv 11) (fun _ _ => rfl)) (pa_cons (pe_ix ix_seq (pv 2) (pv 11) (fun _ _ => rfl)) pa_nil))))) pa_nil)) pa_nil))))))))))))), rd__law_lot h⟩)
theorem ok__law_like (T : TX K mg) : ∀ n, FnOk Pg w K mg base CX0 n T.a__law_like T.d__law_like ["_law_found", "_law_due"] (spP K (P_like n))
  | 0 => fnok_false
  | n + 1 => okP T.F__law_like sc__law_like ln__law_like (fun ds r h cdv A outer sh H E hr => ⟨t__law_like K n, (pss_cons (ps_if (pt_val (pe_callB call_isiT (by rfl) T.n_isinstance (by decide +kernel) (pa_cons (pv 1) (pa_cons (pe_tup (pa_cons (pe_bltn (v := .ty "tuple") (by rfl) T.n_tuple (by decide +kernel) rfl) (pa_cons (pe_bltn (v := .ty "list") (by rfl) T.n_list (by decide +kernel) rfl) pa_nil))) pa_nil)))) (pss_cons (ps_if (pt_cmpR op_ne (pe_callB call_isi (by rfl) T.n_isinstance (by decide +kernel) (pa_cons (pv 0) (pa_cons (pe_bltn (v := .ty "tuple") (by rfl) T.n_tuple (by decide +kernel) rfl) pa_nil))) (pe_callB call_isi (by rfl) T.n_isinstance (by decide +kernel) (pa_cons (pv 1) (pa_cons (pe_bltn (v := .ty "tuple") (by rfl) T.n_tuple (by decide +kernel) rfl) pa_nil))) (nomark _)) (pss_one (ps_ret pe_bl)) pss_nil)
      (pss_cons (ps_if (PW.pt (pw_or (pt_not (pt_val (pe_callB call_isiT (by rfl) T.n_isinstance (by decide +kernel) (pa_cons (pv 0) (pa_cons (pe_tup (pa_cons (pe_bltn (v := .ty "tuple") (by rfl) T.n_tuple (by decide +kernel) rfl) (pa_cons (pe_bltn (v := .ty "list") (by rfl) T.n_list (by decide +kernel) rfl) pa_nil))) pa_nil))))) (pw_or1 (pt_cmpR op_ne (pe_callB c_len (by rfl) T.n_len PySem.boot_len (pa_cons (pv 0) pa_nil)) (pe_callB c_len (by rfl) T.n_len PySem.boot_len (pa_cons (pv 1) pa_nil)) (nomark _))))) (pss_one (ps_ret pe_bl)) pss_nil)
      (pss_one (ps_ret (pe_callB (cr_all rfl) (by rfl) T.n_all (by decide +kernel) (pa_cons (pe_lc (own := [("_law_at", 2)]) (g := (gName 2)) (tt := tYes) rfl sc__law_like.nd (pi_range1 (by rfl) T.n_range (pa_cons (pe_callB c_len (by rfl) T.n_len PySem.boot_len (pa_cons (pv 1) pa_nil)) pa_nil)) (blkOk_by (own := [("_law_at", 2)]) (N := ["_law_found", "_law_due", "_law_at"]) (sc := defScope s__law_like) (by decide +kernel)) (fun _ _ _ _ _ => (pg_name (i := 2) sc__law_like.nd rfl (by first | exact Or.inl rfl | exact Or.inr rfl))) (fun _ _ _ _ _ => pts_nil) (fun _ _ _ _ _ => (pe_call (ok__law_like T n) hr (by rfl) T.g__law_like T.F__law_like.kp T.b__law_like .nil pass0 (pa_cons (pe_ix ix_seq (pv 0) (pv 2) (fun _ _ => rfl)) (pa_cons (pe_ix ix_seq (pv 1) (pv 2) (fun _ _ => rfl)) pa_nil))))) pa_nil)))))) pss_nil)
      (pss_cons (ps_if (pt_val (pe_callB call_isi (by rfl) T.n_isinstance (by decide +kernel) (pa_cons (pv 1) (pa_cons (pe_bltn (v := .ty "bool") (by rfl) T.n_bool (by decide +kernel) rfl) pa_nil)))) (pss_one (ps_ret (pe_and (pe_callB call_isi (by rfl) T.n_isinstance (by decide +kernel) (pa_cons (pv 0) (pa_cons (pe_bltn (v := .ty "bool") (by rfl) T.n_bool (by decide +kernel) rfl) pa_nil))) (pe_one (pe_cmpR op_eq (pv 0) (pv 1) (nomark _)))))) pss_nil)
      (pss_cons (ps_if (pt_val (pe_callB call_isi (by rfl) T.n_isinstance (by decide +kernel) (pa_cons (pv 1) (pa_cons (pe_bltn (v := .ty "int") (by rfl) T.n_int (by decide +kernel) rfl) pa_nil)))) (pss_one (ps_ret (pe_and (pe_callB call_isi (by rfl) T.n_isinstance (by decide +kernel) (pa_cons (pv 0) (pa_cons (pe_bltn (v := .ty "int") (by rfl) T.n_int (by decide +kernel) rfl) pa_nil))) (pe_and (pe_not (pe_callB call_isi (by rfl) T.n_isinstance (by decide +kernel) (pa_cons (pv 0) (pa_cons (pe_bltn (v := .ty "bool") (by rfl) T.n_bool (by decide +kernel) rfl) pa_nil)))) (pe_one (pe_cmpR op_eq (pv 0) (pv 1) (nomark _))))))) pss_nil)
      (pss_cons (ps_if (pt_val (pe_callB call_isi (by rfl) T.n_isinstance (by decide +kernel) (pa_cons (pv 1) (pa_cons (pe_bltn (v := .ty "str") (by rfl) T.n_str (by decide +kernel) rfl) pa_nil)))) (pss_one (ps_ret (pe_and (pe_callB call_isi (by rfl) T.n_isinstance (by decide +kernel) (pa_cons (pv 0) (pa_cons (pe_bltn (v := .ty "str") (by rfl) T.n_str (by decide +kernel) rfl) pa_nil))) (pe_one (pe_cmpR op_eq (pv 0) (pv 1) (nomark _)))))) pss_nil)
      (pss_one (ps_ret (pe_and (pe_cmpR o_isN (pv 1) pe_non (nomark _)) (pe_one (pe_cmpR o_isN (pv 0) pe_non (nomark _)))))))))), rd__law_like h⟩)
theorem ok__law_bent (T : TX K mg) : FnOk Pg w K mg base CX0 5 T.a__law_bent T.d__law_bent ["_law_bag_here", "_law_row", "_law_rank"] (spWB K P_bent) :=
  okWB T.cs T.F__law_bent sc__law_bent ln__law_bent (fun ds A h cdv Ar outer sh H E hr => ⟨t__law_bent K, (pss_cons (ps_set (i := 3) sc__law_bent.nd rfl (by first | exact Or.inl rfl | exact Or.inr rfl) (pe_ix ix_seq (pe_lst (pa_cons pe_non (pa_cons pe_bl (pa_cons pe_str (pa_cons (pe_tup (pa_cons pe_int pa_nil)) (pa_cons (pe_lst (pa_cons pe_int (pa_cons pe_int pa_nil))) pa_nil)))))) (pe_call (ok__law_pull T) (hr.mono (by decide)) (by rfl) T.g__law_pull T.F__law_pull.kp T.b__law_pull .nil pass0 (pa_cons (pv 0) (pa_cons pe_int pa_nil))) (fun _ _ => rfl)))
      (pss_cons (ps_set (i := 4) sc__law_bent.nd rfl (by first | exact Or.inl rfl | exact Or.inr rfl) (pe_lst (pa_cons (pe_tup (pa_cons (pv 3) (pa_cons (pe_ix ix_seq (pv 1) pe_int (fun _ _ => rfl)) pa_nil))) (pa_cons (pe_tup (pa_cons (pe_ix ix_seq (pv 1) pe_int (fun _ _ => rfl)) pa_nil)) (pa_cons (pe_op op_catA (pv 1) (pe_tup (pa_cons pe_int pa_nil))) (pa_cons (pe_callTy c_list (by rfl) T.n_list (by decide +kernel) (pa_cons (pv 1) pa_nil)) (pa_cons (pv 3) pa_nil)))))))
      (pss_cons (ps_set (i := 5) sc__law_bent.nd rfl (by first | exact Or.inl rfl | exact Or.inr rfl) (pe_call (ok__law_pull T) (hr.mono (by decide)) (by rfl) T.g__law_pull T.F__law_pull.kp T.b__law_pull .nil pass0 (pa_cons (pv 0) (pa_cons pe_int pa_nil))))
      (pss_cons (ps_if (pt_cmpR op_ltI (pv 5) pe_int (nomark _)) (pss_one (ps_ret (pe_tup (pa_cons (pe_ix ix_seq (pv 4) (pv 5) (fun _ _ => rfl)) (pa_cons pe_str pa_nil))))) pss_nil)
      (pss_cons (ps_set (i := 6) sc__law_bent.nd rfl (by first | exact Or.inl rfl | exact Or.inr rfl) (pe_lst (pa_cons (pe_lst pa_nil) (pa_cons pe_non (pa_cons (pe_op op_catL (pe_ix ix_seq (pv 1) pe_int (fun _ _ => rfl)) (pe_lst (pa_cons (pv 3) pa_nil))) (pa_cons (pe_lst (pa_cons (pe_call (ok__law_spot T) (hr.mono (by decide)) (by rfl) T.g__law_spot T.F__law_spot.kp T.b__law_spot .nil pass0 (pa_cons (pv 0) (pa_cons (pe_op op_subI pe_int (pv 2)) pa_nil))) pa_nil)) (pa_cons (pe_lst (pa_cons (pe_callTy c_tuple (by rfl) T.n_tuple (by decide +kernel) (pa_cons (pe_op op_catL (pe_lc (own := [("_law_one", 7)]) (g := (gName 7)) (tt := tYes) rfl sc__law_bent.nd (pi_tup (pe_ix ix_seq (pe_ix ix_seq (pv 1) pe_int (fun _ _ => rfl)) pe_int (fun _ _ => rfl))) (blkOk_by (own := [("_law_one", 7)]) (N := ["_law_bag_here", "_law_row", "_law_rank", "_law_wild", "_law_bends", "_law_kind", "_law_spots_here", "_law_one"]) (sc := defScope s__law_bent) (by decide +kernel)) (fun _ _ _ _ _ => (pg_name (i := 7) sc__law_bent.nd rfl (by first | exact Or.inl rfl | exact Or.inr rfl))) (fun _ _ _ _ _ => pts_nil) (fun _ _ _ _ _ => (pv 7))) (pe_lst (pa_cons pe_int pa_nil))) pa_nil)) pa_nil)) pa_nil)))))))
      (pss_one (ps_ret (pe_tup (pa_cons (pe_tup (pa_cons (pe_ix ix_seq (pv 1) pe_int (fun _ _ => rfl)) (pa_cons (pe_ix ix_seq (pv 6) (pe_call (ok__law_pull T) (hr.mono (by decide)) (by rfl) T.g__law_pull T.F__law_pull.kp T.b__law_pull .nil pass0 (pa_cons (pv 0) (pa_cons pe_int pa_nil))) (fun _ _ => rfl)) pa_nil))) (pa_cons pe_str pa_nil)))))))))), rd__law_bent h⟩)
theorem ok_is_small (T : TX K mg) : FnOk Pg w K mg base CX0 1 T.a_is_small T.d_is_small ["number", "limit"] (spW0 K P_small) :=
  okWD T.cs T.F_is_small sc_is_small ln_is_small (fun ds A h cdv Ar outer sh H E hr => ⟨t_is_small K, (pss_one (ps_ret (pe_chain op_leI op_leI (pe_un un_negI (pv 1)) (pv 0) (pv 1)))), rd_is_small h⟩)
theorem ok_bounded (T : TX K mg) : FnOk Pg w K mg base (L2.CX Pg w) 4 T.a_bounded T.d_bounded ["lot"] (spW K T.cs P_bounded) :=
  okWX T.F_bounded sc_bounded ln_bounded (fun ds A h cdv Ar outer sh H E hr => ⟨t_bounded K T.cs (WD E), (pss_cons (ps_if (pt_cmpR op_gtI (pe_callB c_len (by rfl) T.n_len PySem.boot_len (pa_cons (pe_ix ix_seq (pv 0) pe_int (fun _ _ => rfl)) pa_nil)) (pe_glob (v := V.int 2000) (by rfl) T.c_MOST ⟨_, rfl⟩) (nomark _)) (pss_one (ps_raise rfl (takes_of rfl rfl rfl rfl) (pmk_ox0 T.ox_TooMany T.kC_TooMany T.i_TooMany T.ti_TooMany (ok_TooMany T) (hr.mono (by decide)) T.bi_TooMany .nil pass0 (by rfl) T.g_TooMany))) pss_nil)
      (pss_cons (ps_for (passes_of rfl) rfl (pi_tup (pe_ix ix_seq (pv 0) pe_int (fun _ _ => rfl))) (pg_tup rfl (pgs_cons (pg_name (i := 1) sc_bounded.nd rfl (by first | exact Or.inl rfl | exact Or.inr rfl)) (pgs_cons (pg_name (i := 2) sc_bounded.nd rfl (by first | exact Or.inl rfl | exact Or.inr rfl)) pgs_nil))) (pss_cons (ps_if (pt_not (pt_val (pe_call (ok_is_small T) (hr.mono (by decide)) (by rfl) T.g_is_small T.F_is_small.kp T.b1_is_small T.v1_is_small pass0 (pa_cons (pv 1) pa_nil)))) (pss_one (ps_raise rfl (takes_of rfl rfl rfl rfl) (pmk_ox0 T.ox_TooGreat T.kC_TooGreat T.i_TooGreat T.ti_TooGreat (ok_TooGreat T) (hr.mono (by decide)) T.bi_TooGreat .nil pass0 (by rfl) T.g_TooGreat))) pss_nil)
      (pss_one (ps_if (pt_not (pt_val (pe_callB (cr_all rfl) (by rfl) T.n_all (by decide +kernel) (pa_cons (pe_lcN (own := [("corner", 3), ("one", 4), ("number", 5)]) (g := (gName 3)) (tt := tYes) rfl sc_bounded.nd (pi_tup (pv 2)) (blkOk_by (own := [("corner", 3), ("one", 4), ("number", 5)]) (N := ["lot", "weight", "body", "corner", "one", "number"]) (sc := defScope s_bounded) (by decide +kernel)) (fun _ _ _ _ _ => (pg_name (i := 3) sc_bounded.nd rfl (by first | exact Or.inl rfl | exact Or.inr rfl))) (fun _ _ _ _ _ => pts_nil) (lcC_ok (own := [("corner", 3), ("one", 4), ("number", 5)]) (vs1 := [4, 5]) (vs2 := [5]) rfl rfl rfl (fun _ _ _ _ _ => (pi_tup (pv 3))) (fun _ _ _ _ _ => (pg_name (i := 4) sc_bounded.nd rfl (by first | exact Or.inl rfl | exact Or.inr rfl))) (fun _ _ _ _ _ => pts_nil) (fun _ _ _ _ _ => (pi_tup (pv 4))) (fun _ _ _ _ _ => (pg_name (i := 5) sc_bounded.nd rfl (by first | exact Or.inl rfl | exact Or.inr rfl))) (fun _ _ _ _ _ => pts_nil) (fun _ _ _ _ _ => (pe_call (ok_is_small T) (hr.mono (by decide)) (by rfl) T.g_is_small T.F_is_small.kp T.b1_is_small T.v1_is_small pass0 (pa_cons (pv 5) pa_nil))))) pa_nil)))) (pss_one (ps_raise rfl (takes_of rfl rfl rfl rfl) (pmk_ox0 T.ox_TooGreat T.kC_TooGreat T.i_TooGreat T.ti_TooGreat (ok_TooGreat T) (hr.mono (by decide)) T.bi_TooGreat .nil pass0 (by rfl) T.g_TooGreat))) pss_nil))))
      (pss_one (ps_ret (pv 0))))), rd_bounded T.cf_TooMany T.cf_TooGreat h (WD E)⟩)
theorem ok_shared (T : TX K mg) : FnOk Pg w K mg base CX0 1 T.a_shared T.d_shared ["one", "other"] (spP K P_gcd) :=
  okP T.F_shared sc_shared ln_shared (fun ds r h cdv A outer sh H E hr => ⟨t_shared K, (pss_cons (ps_par (i := 0) (j := 1) (by rfl) sc_shared.nd rfl rfl (by decide) rfl rfl (pa_cons (pe_callB c_abs (by rfl) T.n_abs (by decide +kernel) (pa_cons (pv 0) pa_nil)) (pa_cons (pe_callB c_abs (by rfl) T.n_abs (by decide +kernel) (pa_cons (pv 1) pa_nil)) pa_nil)) (by rfl))
      (pss_cons (ps_while PassesOwn.never (pt_cmpR op_gt (pv 1) pe_int (nomark _)) (pss_one (ps_par (i := 0) (j := 1) (by rfl) sc_shared.nd rfl rfl (by decide) rfl rfl (pa_cons (pv 1) (pa_cons (pe_op op_modX (pv 0) (pv 1)) pa_nil)) (by rfl))))
      (pss_one (ps_ret (pe_callB (c_max2 rfl) (by rfl) T.n_max (by decide +kernel) (pa_cons (pv 0) (pa_cons pe_int pa_nil))))))), rd_shared h⟩)
theorem ok_common_below (T : TX K mg) : FnOk Pg w K mg base CX0 2 T.a_common_below T.d_common_below ["spots"] (spW0 K P_cb) :=
  okW T.cs T.F_common_below sc_common_below ln_common_below (fun ds A h cdv Ar outer sh H E hr => ⟨t_common_below K, (pss_cons (ps_set (i := 1) sc_common_below.nd rfl (by first | exact Or.inl rfl | exact Or.inr rfl) pe_int)
      (pss_cons (ps_for PassesOwn.never rfl (pi_seq (pv 0)) (pg_name (i := 2) sc_common_below.nd rfl (by first | exact Or.inl rfl | exact Or.inr rfl)) (pss_one (ps_for PassesOwn.never rfl (pi_tup (pv 2)) (pg_tup rfl (pgs_cons (pg_name (i := 3) sc_common_below.nd rfl (by first | exact Or.inl rfl | exact Or.inr rfl)) (pgs_cons (pg_name (i := 4) sc_common_below.nd rfl (by first | exact Or.inl rfl | exact Or.inr rfl)) pgs_nil))) (pss_one (ps_set (i := 1) sc_common_below.nd rfl (by first | exact Or.inl rfl | exact Or.inr rfl) (pe_op op_divI (pe_op op_mulI (pv 1) (pv 4)) (pe_call (ok_shared T) (hr.mono (by decide)) (by rfl) T.g_shared T.F_shared.kp T.b_shared .nil pass0 (pa_cons (pv 1) (pa_cons (pv 4) pa_nil)))))))))
      (pss_one (ps_ret (pv 1))))), rd_common_below h⟩)
theorem ok_whole_row (T : TX K mg) : FnOk Pg w K mg base CX0 1 T.a_whole_row T.d_whole_row ["spot", "common"] (spW0 K P_wr) :=
  okW T.cs T.F_whole_row sc_whole_row ln_whole_row (fun ds A h cdv Ar outer sh H E hr => ⟨t_whole_row K, (pss_one (ps_ret (pe_lc (own := [("above", 2), ("below", 3)]) (g := (gTup K 2 (gCons (gName 2) (gCons (gName 3) gNil)))) (tt := tYes) rfl sc_whole_row.nd (pi_tup (pv 0)) (blkOk_by (own := [("above", 2), ("below", 3)]) (N := ["spot", "common", "above", "below"]) (sc := defScope s_whole_row) (by decide +kernel)) (fun _ _ _ _ _ => (pg_tup rfl (pgs_cons (pg_name (i := 2) sc_whole_row.nd rfl (by first | exact Or.inl rfl | exact Or.inr rfl)) (pgs_cons (pg_name (i := 3) sc_whole_row.nd rfl (by first | exact Or.inl rfl | exact Or.inr rfl)) pgs_nil)))) (fun _ _ _ _ _ => pts_nil) (fun _ _ _ _ _ => (pe_op op_mulI (pv 2) (pe_op op_divI (pv 1) (pv 3))))))), rd_whole_row h⟩)
theorem ok_in_order (T : TX K mg) : FnOk Pg w K mg base CX0 3 T.a_in_order T.d_in_order ["bodies"] (spW0 K P_inOrder) :=
  okW T.cs T.F_in_order sc_in_order ln_in_order (fun ds A h cdv Ar outer sh H E hr => ⟨t_in_order K w, (pss_cons (ps_set (i := 1) sc_in_order.nd rfl (by first | exact Or.inl rfl | exact Or.inr rfl) (pe_call (ok_common_below T) (hr.mono (by decide)) (by rfl) T.g_common_below T.F_common_below.kp T.b_common_below .nil pass0 (pa_cons (pe_lcN (own := [("body", 3), ("corner", 5)]) (g := (gName 3)) (tt := tYes) rfl sc_in_order.nd (pi_list (pv 0)) (blkOk_by (own := [("body", 3), ("corner", 5)]) (N := ["bodies", "common", "by_worth", "body", "key", "corner", "number"]) (sc := defScope s_in_order) (by decide +kernel)) (fun _ _ _ _ _ => (pg_name (i := 3) sc_in_order.nd rfl (by first | exact Or.inl rfl | exact Or.inr rfl))) (fun _ _ _ _ _ => pts_nil) (lcB_ok (own := [("body", 3), ("corner", 5)]) (vs1 := [5]) rfl rfl (fun _ _ _ _ _ => (pi_tup (pv 3))) (fun _ _ _ _ _ => (pg_name (i := 5) sc_in_order.nd rfl (by first | exact Or.inl rfl | exact Or.inr rfl))) (fun _ _ _ _ _ => pts_nil) (fun _ _ _ _ _ => (pv 5)))) pa_nil)))
      (pss_cons (ps_set (i := 2) sc_in_order.nd rfl (by first | exact Or.inl rfl | exact Or.inr rfl) pe_dct0)
      (pss_cons (ps_for PassesOwn.never rfl (pi_list (pv 0)) (pg_name (i := 3) sc_in_order.nd rfl (by first | exact Or.inl rfl | exact Or.inr rfl)) (pss_cons (ps_set (i := 4) sc_in_order.nd rfl (by first | exact Or.inl rfl | exact Or.inr rfl) (pe_callTy c_tuple (by rfl) T.n_tuple (by decide +kernel) (pa_cons (pe_lcN (own := [("corner", 5), ("number", 6)]) (g := (gName 5)) (tt := tYes) rfl sc_in_order.nd (pi_tup (pv 3)) (blkOk_by (own := [("corner", 5), ("number", 6)]) (N := ["bodies", "common", "by_worth", "body", "key", "corner", "number"]) (sc := defScope s_in_order) (by decide +kernel)) (fun _ _ _ _ _ => (pg_name (i := 5) sc_in_order.nd rfl (by first | exact Or.inl rfl | exact Or.inr rfl))) (fun _ _ _ _ _ => pts_nil) (lcB_ok (own := [("corner", 5), ("number", 6)]) (vs1 := [6]) rfl rfl (fun _ _ _ _ _ => (pi_list (pe_call (ok_whole_row T) (hr.mono (by decide)) (by rfl) T.g_whole_row T.F_whole_row.kp T.b_whole_row .nil pass0 (pa_cons (pv 5) (pa_cons (pv 1) pa_nil))))) (fun _ _ _ _ _ => (pg_name (i := 6) sc_in_order.nd rfl (by first | exact Or.inl rfl | exact Or.inr rfl))) (fun _ _ _ _ _ => pts_nil) (fun _ _ _ _ _ => (pv 6)))) pa_nil)))
      (pss_one (ps_asg (pv 3) (pg_sub (pv 2) (pv 4) (set_dct (u9 hr.units)))))))
      (pss_one (ps_ret (pe_lc (own := [("key", 4)]) (g := (gName 4)) (tt := tYes) rfl sc_in_order.nd (pi_list (pe_callB (cr_srtD rfl hr.units) (by rfl) T.n_sorted (by decide +kernel) (pa_cons (pv 2) pa_nil))) (blkOk_by (own := [("key", 4)]) (N := ["bodies", "common", "by_worth", "body", "key", "corner", "number"]) (sc := defScope s_in_order) (by decide +kernel)) (fun _ _ _ _ _ => (pg_name (i := 4) sc_in_order.nd rfl (by first | exact Or.inl rfl | exact Or.inr rfl))) (fun _ _ _ _ _ => pts_nil) (fun _ _ _ _ _ => (pe_ix (ix_dct (u9 hr.units)) (pv 2) (pv 4) (fun _ _ => rfl))))))))), rd_in_order h⟩)
theorem ok_gathered (T : TX K mg) : FnOk Pg w K mg base CX0 4 T.a_gathered T.d_gathered ["rows", "room"] (spW0 K P_gathered) :=
  okW T.cs T.F_gathered sc_gathered ln_gathered (fun ds A h cdv Ar outer sh H E hr => ⟨t_gathered K w, (pss_cons (ps_set (i := 2) sc_gathered.nd rfl (by first | exact Or.inl rfl | exact Or.inr rfl) pe_dct0)
      (pss_cons (ps_for PassesOwn.never rfl (pi_seq (pv 0)) (pg_tup rfl (pgs_cons (pg_name (i := 4) sc_gathered.nd rfl (by first | exact Or.inl rfl | exact Or.inr rfl)) (pgs_cons (pg_name (i := 5) sc_gathered.nd rfl (by first | exact Or.inl rfl | exact Or.inr rfl)) pgs_nil))) (pss_one (ps_asg (pe_op op_addI (pe_dm PySem.F.plainAttrs_dict PySem.F.slot_dict_get PySem.F.type_dict_get (mt_dct_get (u9 hr.units)) (pv 2) (pa_cons (pv 5) (pa_cons pe_int pa_nil))) (pv 4)) (pg_sub (pv 2) (pv 5) (set_dct (u9 hr.units))))))
      (pss_cons (ps_setLc (i := 3) (own := [("body", 5)]) (g := (gName 5)) (tt := (tTest (tOp rNe (tOp (rDx K w) (tVar 2) (tVar 5)) (tC (V.int 0))))) rfl sc_gathered.nd rfl rfl (sw_true rfl rfl rfl (by decide +kernel)) (pi_dct (pv 2)) (blkOk_by (own := [("body", 5)]) (N := ["rows", "room", "weights", "left", "weight", "body"]) (sc := defScope s_gathered) (by decide +kernel)) (fun _ _ _ _ _ => (pg_name (i := 5) sc_gathered.nd rfl (by first | exact Or.inl rfl | exact Or.inr rfl))) (fun _ _ _ _ _ => pts_one (pt_cmpR op_ne (pe_ix (ix_dct (u9 hr.units)) (pv 2) (pv 5) (fun _ _ => rfl)) pe_int (nomark _))) (fun _ _ _ _ _ => (pv 5)))
      (pss_one (ps_ret (pe_tup (pa_cons (pv 1) (pa_cons (pe_callTy c_tuple (by rfl) T.n_tuple (by decide +kernel) (pa_cons (pe_lc (own := [("body", 5)]) (g := (gName 5)) (tt := tYes) rfl sc_gathered.nd (pi_list (pe_call (ok_in_order T) (hr.mono (by decide)) (by rfl) T.g_in_order T.F_in_order.kp T.b_in_order .nil pass0 (pa_cons (pv 3) pa_nil))) (blkOk_by (own := [("body", 5)]) (N := ["rows", "room", "weights", "left", "weight", "body"]) (sc := defScope s_gathered) (by decide +kernel)) (fun _ _ _ _ _ => (pg_name (i := 5) sc_gathered.nd rfl (by first | exact Or.inl rfl | exact Or.inr rfl))) (fun _ _ _ _ _ => pts_nil) (fun _ _ _ _ _ => (pe_tup (pa_cons (pe_ix (ix_dct (u9 hr.units)) (pv 2) (pv 5) (fun _ _ => rfl)) (pa_cons (pv 5) pa_nil))))) pa_nil)) pa_nil)))))))), rd_gathered h⟩)
theorem ok_settled_lot (T : TX K mg) : FnOk Pg w K mg base (L2.CX Pg w) 5 T.a_settled_lot T.d_settled_lot ["rows", "room"] (spW K T.cs P_settled) :=
  okWX T.F_settled_lot sc_settled_lot ln_settled_lot (fun ds A h cdv Ar outer sh H E hr => ⟨t_settled_lot K T.cs (WD E), (pss_one (ps_ret (pe_callSD (ok_bounded T) (hr.mono (by decide)) (by rfl) T.g_bounded T.F_bounded.kp T.b_bounded .nil (fun σ => passAt (takes_of rfl rfl rfl rfl) σ) (pa_cons (pe_call (ok_gathered T) (hr.mono (by decide)) (by rfl) T.g_gathered T.F_gathered.kp T.b_gathered .nil pass0 (pa_cons (pv 0) (pa_cons (pv 1) pa_nil))) pa_nil)))), rd_settled_lot h (WD E)⟩)
theorem ok_rising (T : TX K mg) : FnOk Pg w K mg base CX0 3 T.a_rising T.d_rising ["spots"] (spW0 K P_rising) :=
  okW T.cs T.F_rising sc_rising ln_rising (fun ds A h cdv Ar outer sh H E hr => ⟨t_rising K w, (pss_cons (ps_set (i := 1) sc_rising.nd rfl (by first | exact Or.inl rfl | exact Or.inr rfl) (pe_call (ok_common_below T) (hr.mono (by decide)) (by rfl) T.g_common_below T.F_common_below.kp T.b_common_below .nil pass0 (pa_cons (pv 0) pa_nil)))
      (pss_cons (ps_set (i := 2) sc_rising.nd rfl (by first | exact Or.inl rfl | exact Or.inr rfl) (pe_dcd (own := [("spot", 3)]) (g := (gName 3)) (tt := tYes) (u9 hr.units) rfl sc_rising.nd (pi_seq (pv 0)) (blkOk_by (own := [("spot", 3)]) (N := ["spots", "common", "by_worth", "spot", "key"]) (sc := defScope s_rising) (by decide +kernel)) (fun _ _ _ _ _ => (pg_name (i := 3) sc_rising.nd rfl (by first | exact Or.inl rfl | exact Or.inr rfl))) (fun _ _ _ _ _ => pts_nil) (fun _ _ _ _ _ => (pe_callTy c_tuple (by rfl) T.n_tuple (by decide +kernel) (pa_cons (pe_call (ok_whole_row T) (hr.mono (by decide)) (by rfl) T.g_whole_row T.F_whole_row.kp T.b_whole_row .nil pass0 (pa_cons (pv 3) (pa_cons (pv 1) pa_nil))) pa_nil))) (fun _ _ _ _ _ => (pv 3))))
      (pss_one (ps_ret (pe_lc (own := [("key", 4)]) (g := (gName 4)) (tt := tYes) rfl sc_rising.nd (pi_list (pe_callB (cr_srtD rfl hr.units) (by rfl) T.n_sorted (by decide +kernel) (pa_cons (pv 2) pa_nil))) (blkOk_by (own := [("key", 4)]) (N := ["spots", "common", "by_worth", "spot", "key"]) (sc := defScope s_rising) (by decide +kernel)) (fun _ _ _ _ _ => (pg_name (i := 4) sc_rising.nd rfl (by first | exact Or.inl rfl | exact Or.inr rfl))) (fun _ _ _ _ _ => pts_nil) (fun _ _ _ _ _ => (pe_ix (ix_dct (u9 hr.units)) (pv 2) (pv 4) (fun _ _ => rfl)))))))), rd_rising h⟩)
theorem ok_order (T : TX K mg) : FnOk Pg w K mg base CX0 1 T.a_order T.d_order ["one", "other"] (spP K P_order) :=
  okP T.F_order sc_order ln_order (fun ds r h cdv A outer sh H E hr => ⟨t_order K, (pss_cons (ps_set (i := 2) sc_order.nd rfl (by first | exact Or.inl rfl | exact Or.inr rfl) (pe_op op_sub (pe_op op_mulW (pe_ix ix_seq (pv 0) pe_int (fun _ _ => rfl)) (pe_ix ix_seq (pv 1) pe_int (fun _ _ => rfl))) (pe_op op_mulW (pe_ix ix_seq (pv 1) pe_int (fun _ _ => rfl)) (pe_ix ix_seq (pv 0) pe_int (fun _ _ => rfl)))))
      (pss_one (ps_ret (pe_op o_subB (pe_cmpR op_gt (pv 2) pe_int (nomark _)) (pe_cmpR op_lt (pv 2) pe_int (nomark _)))))), rd_order h⟩)
theorem ok_part (T : TX K mg) : FnOk Pg w K mg base (L2.CX Pg w) 3 T.a_part T.d_part ["above", "below"] (spX K T.cs P_partX) :=
  okXD T.F_part sc_part ln_part (fun ds r h cdv A outer sh H E hr => ⟨t_part K T.cs (WD E), (pss_cons (ps_if (pt_cmpR op_eq (pv 1) pe_int (nomark _)) (pss_one (ps_raise rfl (takes_of rfl rfl rfl rfl) (pmk_ox0 T.ox_Flat T.kC_Flat T.i_Flat T.ti_Flat (ok_Flat T) (hr.mono (by decide)) T.bi_Flat .nil pass0 (by rfl) T.g_Flat))) pss_nil)
      (pss_cons (ps_if (pt_cmpR op_lt (pv 1) pe_int (nomark _)) (pss_one (ps_par (i := 0) (j := 1) (by rfl) sc_part.nd rfl rfl (by decide) rfl rfl (pa_cons (pe_un un_neg (pv 0)) (pa_cons (pe_un un_neg (pv 1)) pa_nil)) (by rfl))) pss_nil)
      (pss_cons (ps_set (i := 2) sc_part.nd rfl (by first | exact Or.inl rfl | exact Or.inr rfl) (pe_call (ok_shared T) (hr.mono (by decide)) (by rfl) T.g_shared T.F_shared.kp T.b_shared .nil pass0 (pa_cons (pv 0) (pa_cons (pv 1) pa_nil))))
      (pss_one (ps_ret (pe_tup (pa_cons (pe_op op_fdivX (pv 0) (pv 2)) (pa_cons (pe_op op_fdivX (pv 1) (pv 2)) pa_nil)))))))), rd_part T.cf_Flat h (WD E)⟩)
theorem ok_minus (T : TX K mg) : FnOk Pg w K mg base CX0 4 T.a_minus T.d_minus ["one", "other"] (spP K P_minus) :=
  okP T.F_minus sc_minus ln_minus (fun ds r h cdv A outer sh H E hr => ⟨t_minus K T.cs, (pss_one (ps_ret (pe_callSD (ok_part T) (hr.mono (by decide)) (by rfl) T.g_part T.F_part.kp T.b_part .nil (fun σ => passAt takes0 σ) (pa_cons (pe_op op_sub (pe_op op_mulW (pe_ix ix_seq (pv 0) pe_int (fun _ _ => rfl)) (pe_ix ix_seq (pv 1) pe_int (fun _ _ => rfl))) (pe_op op_mulW (pe_ix ix_seq (pv 1) pe_int (fun _ _ => rfl)) (pe_ix ix_seq (pv 0) pe_int (fun _ _ => rfl)))) (pa_cons (pe_op op_mulW (pe_ix ix_seq (pv 0) pe_int (fun _ _ => rfl)) (pe_ix ix_seq (pv 1) pe_int (fun _ _ => rfl))) pa_nil))))), rd_minus h⟩)
theorem ok_times (T : TX K mg) : FnOk Pg w K mg base CX0 4 T.a_times T.d_times ["one", "other"] (spP K P_times) :=
  okP T.F_times sc_times ln_times (fun ds r h cdv A outer sh H E hr => ⟨t_times K T.cs, (pss_one (ps_ret (pe_callSD (ok_part T) (hr.mono (by decide)) (by rfl) T.g_part T.F_part.kp T.b_part .nil (fun σ => passAt takes0 σ) (pa_cons (pe_op op_mulW (pe_ix ix_seq (pv 0) pe_int (fun _ _ => rfl)) (pe_ix ix_seq (pv 1) pe_int (fun _ _ => rfl))) (pa_cons (pe_op op_mulW (pe_ix ix_seq (pv 0) pe_int (fun _ _ => rfl)) (pe_ix ix_seq (pv 1) pe_int (fun _ _ => rfl))) pa_nil))))), rd_times h⟩)
theorem ok_across (T : TX K mg) : FnOk Pg w K mg base CX0 5 T.a_across T.d_across ["one", "other"] (spP K P_across) :=
  okP T.F_across sc_across ln_across (fun ds r h cdv A outer sh H E hr => ⟨t_across K, (pss_one (ps_ret (pe_call (ok_minus T) (hr.mono (by decide)) (by rfl) T.g_minus T.F_minus.kp T.b_minus .nil pass0 (pa_cons (pe_call (ok_times T) (hr.mono (by decide)) (by rfl) T.g_times T.F_times.kp T.b_times .nil pass0 (pa_cons (pe_ix ix_seq (pv 0) pe_int (fun _ _ => rfl)) (pa_cons (pe_ix ix_seq (pv 1) pe_int (fun _ _ => rfl)) pa_nil))) (pa_cons (pe_call (ok_times T) (hr.mono (by decide)) (by rfl) T.g_times T.F_times.kp T.b_times .nil pass0 (pa_cons (pe_ix ix_seq (pv 0) pe_int (fun _ _ => rfl)) (pa_cons (pe_ix ix_seq (pv 1) pe_int (fun _ _ => rfl)) pa_nil))) pa_nil))))), rd_across h⟩)
theorem ok_step_from (T : TX K mg) : FnOk Pg w K mg base CX0 5 T.a_step_from T.d_step_from ["one", "other"] (spP K P_step) :=
  okP T.F_step_from sc_step_from ln_step_from (fun ds r h cdv A outer sh H E hr => ⟨t_step_from K, (pss_one (ps_ret (pe_callTy c_tuple (by rfl) T.n_tuple (by decide +kernel) (pa_cons (pe_lc (own := [("first", 2), ("second", 3)]) (g := (gTup K 2 (gCons (gName 2) (gCons (gName 3) gNil)))) (tt := tYes) rfl sc_step_from.nd (RZ.pi_zipA (by rfl) T.n_zip (pa_cons (pv 0) (pa_cons (pv 1) pa_nil))) (blkOk_by (own := [("first", 2), ("second", 3)]) (N := ["one", "other", "first", "second"]) (sc := defScope s_step_from) (by decide +kernel)) (fun _ _ _ _ _ => (pg_tup rfl (pgs_cons (pg_name (i := 2) sc_step_from.nd rfl (by first | exact Or.inl rfl | exact Or.inr rfl)) (pgs_cons (pg_name (i := 3) sc_step_from.nd rfl (by first | exact Or.inl rfl | exact Or.inr rfl)) pgs_nil)))) (fun _ _ _ _ _ => pts_nil) (fun _ _ _ _ _ => (pe_call (ok_minus T) (hr.mono (by decide)) (by rfl) T.g_minus T.F_minus.kp T.b_minus .nil pass0 (pa_cons (pv 3) (pa_cons (pv 2) pa_nil))))) pa_nil)))), rd_step_from h⟩)
theorem ok_side_of (T : TX K mg) : FnOk Pg w K mg base CX0 6 T.a_side_of T.d_side_of ["start", "end", "spot"] (spP K P_side) :=
  okP T.F_side_of sc_side_of ln_side_of (fun ds r h cdv A outer sh H E hr => ⟨t_side_of K, (pss_one (ps_ret (pe_call (ok_order T) (hr.mono (by decide)) (by rfl) T.g_order T.F_order.kp T.b_order .nil pass0 (pa_cons (pe_call (ok_across T) (hr.mono (by decide)) (by rfl) T.g_across T.F_across.kp T.b_across .nil pass0 (pa_cons (pe_call (ok_step_from T) (hr.mono (by decide)) (by rfl) T.g_step_from T.F_step_from.kp T.b_step_from .nil pass0 (pa_cons (pv 0) (pa_cons (pv 1) pa_nil))) (pa_cons (pe_call (ok_step_from T) (hr.mono (by decide)) (by rfl) T.g_step_from T.F_step_from.kp T.b_step_from .nil pass0 (pa_cons (pv 0) (pa_cons (pv 2) pa_nil))) pa_nil))) (pa_cons (pe_tup (pa_cons pe_int (pa_cons pe_int pa_nil))) pa_nil))))), rd_side_of h⟩)
theorem ok_hull_side (T : TX K mg) : FnOk Pg w K mg base CX0 7 T.a_hull_side T.d_hull_side ["spots"] (spW0 K P_hull) :=
  okW T.cs T.F_hull_side sc_hull_side ln_hull_side (fun ds A h cdv Ar outer sh H E hr => ⟨t_hull_side K, (pss_cons (ps_set (i := 1) sc_hull_side.nd rfl (by first | exact Or.inl rfl | exact Or.inr rfl) (pe_lst pa_nil))
      (pss_cons (ps_for PassesOwn.never rfl (pi_list (pv 0)) (pg_name (i := 2) sc_hull_side.nd rfl (by first | exact Or.inl rfl | exact Or.inr rfl)) (pss_cons (ps_while PassesOwn.never (PW.pt (pw_and (pt_cmpR op_gtI (pe_callB c_len (by rfl) T.n_len PySem.boot_len (pa_cons (pv 1) pa_nil)) pe_int (nomark _)) (pw_and1 (pt_cmpR op_leI (pe_call (ok_side_of T) (hr.mono (by decide)) (by rfl) T.g_side_of T.F_side_of.kp T.b_side_of .nil pass0 (pa_cons (pe_ix ix_seq (pv 1) (pe_un un_negI pe_int) (fun _ _ => rfl)) (pa_cons (pe_ix ix_seq (pv 1) (pe_un un_negI pe_int) (fun _ _ => rfl)) (pa_cons (pv 2) pa_nil)))) pe_int (nomark _))))) (pss_one (ps_expr (pe_bm0 PySem.F.plainAttrs_list PySem.F.slot_list_pop PySem.F.type_list_pop mt_pop (pv 1)))))
      (pss_one (ps_expr (pe_bm PySem.F.plainAttrs_list PySem.F.slot_list_append PySem.F.type_list_append mt_append (pv 1) (pa_cons (pv 2) pa_nil))))))
      (pss_one (ps_ret (pv 1))))), rd_hull_side h⟩)
theorem ok_corners_round (T : TX K mg) : FnOk Pg w K mg base CX0 8 T.a_corners_round T.d_corners_round ["spots"] (spW0 K P_corners) :=
  okW T.cs T.F_corners_round sc_corners_round ln_corners_round (fun ds A h cdv Ar outer sh H E hr => ⟨t_corners_round K, (pss_cons (ps_set (i := 1) sc_corners_round.nd rfl (by first | exact Or.inl rfl | exact Or.inr rfl) (pe_call (ok_rising T) (hr.mono (by decide)) (by rfl) T.g_rising T.F_rising.kp T.b_rising .nil pass0 (pa_cons (pv 0) pa_nil)))
      (pss_cons (ps_if (PW.pt (pw_or (pt_cmpR op_ltI (pe_callB c_len (by rfl) T.n_len PySem.boot_len (pa_cons (pv 1) pa_nil)) pe_int (nomark _)) (pw_or1 (pt_cmpR op_eq (pe_callB c_len (by rfl) T.n_len PySem.boot_len (pa_cons (pe_ix ix_seq (pv 1) pe_int (fun _ _ => rfl)) pa_nil)) pe_int (nomark _))))) (pss_one (ps_ret (pe_ifExp (pt_cmpR op_eq (pe_callB c_len (by rfl) T.n_len PySem.boot_len (pa_cons (pv 1) pa_nil)) pe_int (nomark _)) (pe_tup (pa_cons (pe_ix ix_seq (pv 1) pe_int (fun _ _ => rfl)) pa_nil)) (pe_tup (pa_cons (pe_ix ix_seq (pv 1) pe_int (fun _ _ => rfl)) (pa_cons (pe_ix ix_seq (pv 1) (pe_un un_negI pe_int) (fun _ _ => rfl)) pa_nil)))))) pss_nil)
      (pss_cons (ps_set (i := 2) sc_corners_round.nd rfl (by first | exact Or.inl rfl | exact Or.inr rfl) (pe_call (ok_hull_side T) (hr.mono (by decide)) (by rfl) T.g_hull_side T.F_hull_side.kp T.b_hull_side .nil pass0 (pa_cons (pv 1) pa_nil)))
      (pss_cons (ps_set (i := 3) sc_corners_round.nd rfl (by first | exact Or.inl rfl | exact Or.inr rfl) (pe_call (ok_hull_side T) (hr.mono (by decide)) (by rfl) T.g_hull_side T.F_hull_side.kp T.b_hull_side .nil pass0 (pa_cons (pe_revL (pv 1)) pa_nil)))
      (pss_one (ps_ret (pe_callTy c_tuple (by rfl) T.n_tuple (by decide +kernel) (pa_cons (pe_op op_catL (pe_slice sl_list (pv 2) po_none (po_some (pe_un un_negI pe_int))) (pe_slice sl_list (pv 3) po_none (po_some (pe_un un_negI pe_int)))) pa_nil)))))))), rd_corners_round h⟩)
theorem ok_is_whole (T : TX K mg) : FnOk Pg w K mg base CX0 1 T.a_is_whole T.d_is_whole ["thing"] (spP K P_isWhole) :=
  okP T.F_is_whole sc_is_whole ln_is_whole (fun ds r h cdv A outer sh H E hr => ⟨t_is_whole K, (pss_one (ps_ret (pe_and (pe_callB call_isi (by rfl) T.n_isinstance (by decide +kernel) (pa_cons (pv 0) (pa_cons (pe_bltn (v := .ty "int") (by rfl) T.n_int (by decide +kernel) rfl) pa_nil))) (pe_one (pe_not (pe_callB call_isi (by rfl) T.n_isinstance (by decide +kernel) (pa_cons (pv 0) (pa_cons (pe_bltn (v := .ty "bool") (by rfl) T.n_bool (by decide +kernel) rfl) pa_nil)))))))), rd_is_whole h⟩)
theorem ok_is_part (T : TX K mg) : FnOk Pg w K mg base CX0 2 T.a_is_part T.d_is_part ["thing"] (spP K P_isPart) :=
  okP T.F_is_part sc_is_part ln_is_part (fun ds r h cdv A outer sh H E hr => ⟨t_is_part K, (pss_cons (ps_if (PW.pt (pw_or (pt_not (pt_val (pe_callB call_isi (by rfl) T.n_isinstance (by decide +kernel) (pa_cons (pv 0) (pa_cons (pe_bltn (v := .ty "tuple") (by rfl) T.n_tuple (by decide +kernel) rfl) pa_nil))))) (pw_or1 (pt_cmpR op_ne (pe_callB c_len (by rfl) T.n_len PySem.boot_len (pa_cons (pv 0) pa_nil)) pe_int (nomark _))))) (pss_one (ps_ret pe_bl)) pss_nil)
      (pss_cons (ps_if (PW.pt (pw_or (pt_not (pt_val (pe_call (ok_is_whole T) (hr.mono (by decide)) (by rfl) T.g_is_whole T.F_is_whole.kp T.b_is_whole .nil pass0 (pa_cons (pe_ix ix_seq (pv 0) pe_int (fun _ _ => rfl)) pa_nil)))) (pw_or1 (pt_not (pt_val (pe_call (ok_is_whole T) (hr.mono (by decide)) (by rfl) T.g_is_whole T.F_is_whole.kp T.b_is_whole .nil pass0 (pa_cons (pe_ix ix_seq (pv 0) pe_int (fun _ _ => rfl)) pa_nil))))))) (pss_one (ps_ret pe_bl)) pss_nil)
      (pss_one (ps_ret (pe_and (pe_cmpR op_gt (pe_ix ix_seq (pv 0) pe_int (fun _ _ => rfl)) pe_int (nomark _)) (pe_one (pe_cmpR op_eq (pe_call (ok_shared T) (hr.mono (by decide)) (by rfl) T.g_shared T.F_shared.kp T.b_shared .nil pass0 (pa_cons (pe_ix ix_seq (pv 0) pe_int (fun _ _ => rfl)) (pa_cons (pe_ix ix_seq (pv 0) pe_int (fun _ _ => rfl)) pa_nil))) pe_int (nomark _)))))))), rd_is_part h⟩)
theorem ok_is_spot (T : TX K mg) : FnOk Pg w K mg base CX0 3 T.a_is_spot T.d_is_spot ["thing", "room"] (spP K P_isSpot) :=
  okPD T.F_is_spot sc_is_spot ln_is_spot (fun ds r h cdv A outer sh H E hr => ⟨t_is_spot K, (pss_cons (ps_if (PW.pt (pw_or (pt_cmpR op_notIn_seq (pv 1) (pe_tup (pa_cons pe_int (pa_cons pe_int pa_nil))) (by rfl)) (pw_or (pt_not (pt_val (pe_callB call_isi (by rfl) T.n_isinstance (by decide +kernel) (pa_cons (pv 0) (pa_cons (pe_bltn (v := .ty "tuple") (by rfl) T.n_tuple (by decide +kernel) rfl) pa_nil))))) (pw_or1 (pt_cmpR op_ne (pe_callB c_len (by rfl) T.n_len PySem.boot_len (pa_cons (pv 0) pa_nil)) (pv 1) (nomark _)))))) (pss_one (ps_ret pe_bl)) pss_nil)
      (pss_one (ps_ret (pe_callB (cr_all rfl) (by rfl) T.n_all (by decide +kernel) (pa_cons (pe_lc (own := [("one", 2)]) (g := (gName 2)) (tt := tYes) rfl sc_is_spot.nd (pi_tup (pv 0)) (blkOk_by (own := [("one", 2)]) (N := ["thing", "room", "one"]) (sc := defScope s_is_spot) (by decide +kernel)) (fun _ _ _ _ _ => (pg_name (i := 2) sc_is_spot.nd rfl (by first | exact Or.inl rfl | exact Or.inr rfl))) (fun _ _ _ _ _ => pts_nil) (fun _ _ _ _ _ => (pe_call (ok_is_part T) (hr.mono (by decide)) (by rfl) T.g_is_part T.F_is_part.kp T.b_is_part .nil pass0 (pa_cons (pv 2) pa_nil)))) pa_nil))))), rd_is_spot h⟩)
theorem ok_body_of (T : TX K mg) : FnOk Pg w K mg base (L2.CX Pg w) 9 T.a_body_of T.d_body_of ["spots"] (spW K T.cs P_bodyOf) :=
  okWX T.F_body_of sc_body_of ln_body_of (fun ds A h cdv Ar outer sh H E hr => ⟨t_body_of K T.cs (WD E), (pss_cons (ps_if (PW.pt (pw_or (pt_not (pt_val (pe_callB call_isiT (by rfl) T.n_isinstance (by decide +kernel) (pa_cons (pv 0) (pa_cons (pe_tup (pa_cons (pe_bltn (v := .ty "list") (by rfl) T.n_list (by decide +kernel) rfl) (pa_cons (pe_bltn (v := .ty "tuple") (by rfl) T.n_tuple (by decide +kernel) rfl) pa_nil))) pa_nil))))) (pw_or1 (pt_cmpR op_eq (pe_callB c_len (by rfl) T.n_len PySem.boot_len (pa_cons (pv 0) pa_nil)) pe_int (nomark _))))) (pss_one (ps_raise rfl (takes_of rfl rfl rfl rfl) (pmk_ox0 T.ox_BadSpot T.kC_BadSpot T.i_BadSpot T.ti_BadSpot (ok_BadSpot T) (hr.mono (by decide)) T.bi_BadSpot .nil pass0 (by rfl) T.g_BadSpot))) pss_nil)
      (pss_cons (ps_asg (pv 0) (pg_starE rfl (pgs_cons (pg_name (i := 2) sc_body_of.nd rfl (by first | exact Or.inl rfl | exact Or.inr rfl)) (pgs_cons (pg_name (i := 3) sc_body_of.nd rfl (by first | exact Or.inl rfl | exact Or.inr rfl)) pgs_nil))))
      (pss_cons (ps_set (i := 1) sc_body_of.nd rfl (by first | exact Or.inl rfl | exact Or.inr rfl) (pe_ifExp (pt_val (pe_callB call_isi (by rfl) T.n_isinstance (by decide +kernel) (pa_cons (pv 2) (pa_cons (pe_bltn (v := .ty "tuple") (by rfl) T.n_tuple (by decide +kernel) rfl) pa_nil)))) (pe_callB c_len (by rfl) T.n_len PySem.boot_len (pa_cons (pv 2) pa_nil)) pe_int))
      (pss_cons (ps_if (PW.pt (pw_or (pt_not (pt_val (pe_callN (n := 1) (ks := ["room"]) (ok_is_spot T) (hr.mono (by decide)) (by rfl) T.g_is_spot T.F_is_spot.kp T.kb_is_spot pass0 (pa_cons (pv 2) pa_nil) (pk_cons (pv 1) pk_nil)))) (pw_or1 (pt_not (pt_val (pe_callB (cr_all rfl) (by rfl) T.n_all (by decide +kernel) (pa_cons (pe_lc (own := [("spot", 4)]) (g := (gName 4)) (tt := tYes) rfl sc_body_of.nd (pi_list (pv 3)) (blkOk_by (own := [("spot", 4)]) (N := ["spots", "room", "first", "rest", "spot"]) (sc := defScope s_body_of) (by decide +kernel)) (fun _ _ _ _ _ => (pg_name (i := 4) sc_body_of.nd rfl (by first | exact Or.inl rfl | exact Or.inr rfl))) (fun _ _ _ _ _ => pts_nil) (fun _ _ _ _ _ => (pe_callN (n := 1) (ks := ["room"]) (ok_is_spot T) (hr.mono (by decide)) (by rfl) T.g_is_spot T.F_is_spot.kp T.kb_is_spot pass0 (pa_cons (pv 4) pa_nil) (pk_cons (pv 1) pk_nil)))) pa_nil))))))) (pss_one (ps_raise rfl (takes_of rfl rfl rfl rfl) (pmk_ox0 T.ox_BadSpot T.kC_BadSpot T.i_BadSpot T.ti_BadSpot (ok_BadSpot T) (hr.mono (by decide)) T.bi_BadSpot .nil pass0 (by rfl) T.g_BadSpot))) pss_nil)
      (pss_one (ps_ret (pe_call (ok_corners_round T) (hr.mono (by decide)) (by rfl) T.g_corners_round T.F_corners_round.kp T.b_corners_round .nil pass0 (pa_cons (pe_callTy c_list (by rfl) T.n_list (by decide +kernel) (pa_cons (pv 0) pa_nil)) pa_nil)))))))), rd_body_of T.cf_BadSpot h (WD E)⟩)
theorem ok_lot_of (T : TX K mg) : FnOk Pg w K mg base (L2.CX Pg w) 10 T.a_lot_of T.d_lot_of ["rows", "room"] (spWF K T.cs P_lotOfW P_lotOfWD) :=
  okWFXD T.F_lot_of sc_lot_of ln_lotOfW lnD_lotOfW (fun cdv Ar outer sh H E hr => ⟨t_lotOfW K T.cs (WD E), (pss_cons (ps_if (PW.pt (pw_or (pt_not (pt_val (pe_call (ok_is_whole T) (hr.mono (by decide)) (by rfl) T.g_is_whole T.F_is_whole.kp T.b_is_whole .nil pass0 (pa_cons (pv 1) pa_nil)))) (pw_or1 (pt_cmpR op_notIn_seq (pv 1) (pe_tup (pa_cons pe_int (pa_cons pe_int pa_nil))) (by rfl))))) (pss_one (ps_raise rfl (takes_of rfl rfl rfl rfl) (pmk_ox0 T.ox_OtherRoom T.kC_OtherRoom T.i_OtherRoom T.ti_OtherRoom (ok_OtherRoom T) (hr.mono (by decide)) T.bi_OtherRoom .nil pass0 (by rfl) T.g_OtherRoom))) pss_nil)
      (pss_cons (ps_if (pt_not (pt_val (pe_callB call_isiT (by rfl) T.n_isinstance (by decide +kernel) (pa_cons (pv 0) (pa_cons (pe_tup (pa_cons (pe_bltn (v := .ty "list") (by rfl) T.n_list (by decide +kernel) rfl) (pa_cons (pe_bltn (v := .ty "tuple") (by rfl) T.n_tuple (by decide +kernel) rfl) pa_nil))) pa_nil))))) (pss_one (ps_raise rfl (takes_of rfl rfl rfl rfl) (pmk_ox0 T.ox_BadLot T.kC_BadLot T.i_BadLot T.ti_BadLot (ok_BadLot T) (hr.mono (by decide)) T.bi_BadLot .nil pass0 (by rfl) T.g_BadLot))) pss_nil)
      (pss_cons (ps_set (i := 2) sc_lot_of.nd rfl (by first | exact Or.inl rfl | exact Or.inr rfl) (pe_lst pa_nil))
      (pss_cons (ps_for (passes_of rfl) rfl (pi_seq (pv 0)) (pg_name (i := 3) sc_lot_of.nd rfl (by first | exact Or.inl rfl | exact Or.inr rfl)) (pss_cons (ps_if (PW.pt (pw_or (pt_not (pt_val (pe_callB call_isi (by rfl) T.n_isinstance (by decide +kernel) (pa_cons (pv 3) (pa_cons (pe_bltn (v := .ty "tuple") (by rfl) T.n_tuple (by decide +kernel) rfl) pa_nil))))) (pw_or (pt_cmpR op_ne (pe_callB c_len (by rfl) T.n_len PySem.boot_len (pa_cons (pv 3) pa_nil)) pe_int (nomark _)) (pw_or1 (pt_not (pt_val (pe_call (ok_is_whole T) (hr.mono (by decide)) (by rfl) T.g_is_whole T.F_is_whole.kp T.b_is_whole .nil pass0 (pa_cons (pe_ix ix_seq (pv 3) pe_int (fun _ _ => rfl)) pa_nil)))))))) (pss_one (ps_raise rfl (takes_of rfl rfl rfl rfl) (pmk_ox0 T.ox_BadLot T.kC_BadLot T.i_BadLot T.ti_BadLot (ok_BadLot T) (hr.mono (by decide)) T.bi_BadLot .nil pass0 (by rfl) T.g_BadLot))) pss_nil)
      (pss_cons (ps_set (i := 4) sc_lot_of.nd rfl (by first | exact Or.inl rfl | exact Or.inr rfl) (pe_callSD (ok_body_of T) (hr.mono (by decide)) (by rfl) T.g_body_of T.F_body_of.kp T.b_body_of .nil (fun σ => passAt (takes_of rfl rfl rfl rfl) σ) (pa_cons (pe_ix ix_seq (pv 3) pe_int (fun _ _ => rfl)) pa_nil)))
      (pss_cons (ps_if (pt_cmpR op_ne (pe_callB c_len (by rfl) T.n_len PySem.boot_len (pa_cons (pe_ix ix_seq (pv 4) pe_int (fun _ _ => rfl)) pa_nil)) (pv 1) (nomark _)) (pss_one (ps_raise rfl (takes_of rfl rfl rfl rfl) (pmk_ox0 T.ox_BadSpot T.kC_BadSpot T.i_BadSpot T.ti_BadSpot (ok_BadSpot T) (hr.mono (by decide)) T.bi_BadSpot .nil pass0 (by rfl) T.g_BadSpot))) pss_nil)
      (pss_one (ps_expr (pe_bm PySem.F.plainAttrs_list PySem.F.slot_list_append PySem.F.type_list_append mt_append (pv 2) (pa_cons (pe_tup (pa_cons (pe_ix ix_seq (pv 3) pe_int (fun _ _ => rfl)) (pa_cons (pv 4) pa_nil))) pa_nil))))))))
      (pss_one (ps_ret (pe_callSD (ok_settled_lot T) (hr.mono (by decide)) (by rfl) T.g_settled_lot T.F_settled_lot.kp T.b_settled_lot .nil (fun σ => passAt (takes_of rfl rfl rfl rfl) σ) (pa_cons (pv 2) (pa_cons (pv 1) pa_nil))))))))), fun ds A h => rd_lotOfW T.cf_OtherRoom T.cf_BadLot T.cf_BadSpot h (WD E), fun ds A h => rdD_lotOfW T.cf_OtherRoom T.cf_BadLot T.cf_BadSpot h (WD E)⟩)
theorem ok__law_told (T : TX K mg) : FnOk Pg w K mg base CX0 11 T.a__law_told T.d__law_told ["_law_rows_here", "_law_rank"] (spWF0 K P_told19 P_told19D) :=
  okWF0 T.cs T.F__law_told sc__law_told ln_told19 lnD_told19 (fun cdv Ar outer sh H E hr => ⟨t_told19 K T.cs, (pss_one (ps_try_manyAs (tb := fun W => (tRet (tCallNS 1 1 (spWF K T.cs P_lotOfW P_lotOfWD) (fun vs zs => vs ++ zs) (WE W) (tCons (tVar 0) tNil) (tCons (tVar 1) tNil)))) (Wout := fun _ _ _ _ => False) rfl rfl takes0 (fun W pn xe tk _ => (pss_one (ps_ret (pe_callNS (n := 1) (ks := ["room"]) (ok_lot_of T) (hr.mono (by decide)) (by rfl) T.g_lot_of T.F_lot_of.kp T.kb_lot_of (fun σ => passAt tk σ) (pa_cons (pv 0) pa_nil) (pk_cons (pv 1) pk_nil))))) (HdsAs.cons (i := 2) (ts := fun a cls d => (tRet (tLst (tCons (tXf a cls d (T.cs "OtherRoom") "word" (tVar 2)) tNil)))) sc__law_told.nd rfl rfl ⟨rfl, by decide, Or.inl T.g_OtherRoom⟩ (fun a oe cls d pn hz hf => (pss_one (ps_ret (pe_lst (pa_cons (pe_xf T.xf_OtherRoom T.nw_OtherRoom_word hz hf (pv 2)) pa_nil))))) (HdsAs.cons (i := 2) (ts := fun a cls d => (tRet (tLst (tCons (tXf a cls d (T.cs "BadLot") "word" (tVar 2)) tNil)))) sc__law_told.nd rfl rfl ⟨rfl, by decide, Or.inl T.g_BadLot⟩ (fun a oe cls d pn hz hf => (pss_one (ps_ret (pe_lst (pa_cons (pe_xf T.xf_BadLot T.nw_BadLot_word hz hf (pv 2)) pa_nil))))) (HdsAs.cons (i := 2) (ts := fun a cls d => (tRet (tLst (tCons (tXf a cls d (T.cs "BadSpot") "word" (tVar 2)) tNil)))) sc__law_told.nd rfl rfl ⟨rfl, by decide, Or.inl T.g_BadSpot⟩ (fun a oe cls d pn hz hf => (pss_one (ps_ret (pe_lst (pa_cons (pe_xf T.xf_BadSpot T.nw_BadSpot_word hz hf (pv 2)) pa_nil))))) HdsAs.nil))))), fun ds A h => rd_told19 T.em_OtherRoom_OtherRoom T.em_BadLot_OtherRoom T.em_BadLot_BadLot T.em_BadSpot_OtherRoom T.em_BadSpot_BadLot T.em_BadSpot_BadSpot h, fun ds A h => rdD_told19 T.em_OtherRoom_OtherRoom T.em_BadLot_OtherRoom T.em_BadLot_BadLot T.em_BadSpot_OtherRoom T.em_BadSpot_BadLot T.em_BadSpot_BadSpot h⟩)
theorem ok_nothing (T : TX K mg) : FnOk Pg w K mg base CX0 1 T.a_nothing T.d_nothing ["room"] (spW0 K P_nothing) :=
  okWD T.cs T.F_nothing sc_nothing ln_nothing (fun ds A h cdv Ar outer sh H E hr => ⟨t_nothing K, (pss_one (ps_ret (pe_tup (pa_cons (pv 0) (pa_cons (pe_tup pa_nil) pa_nil))))), rd_nothing h⟩)
def t_law (K : Fg) (cs : Cs) : TS := (tSeq (tAsg (tCall (spWB K P_room) [] E0 (tCons (tVar 1) tNil)) (gName 2))
  (tSeq (tAsg (tCall (spWB K P_lrows) [] E0 (tCons (tVar 1) (tCons (tVar 2) (tCons (tC (V.int 4)) (tCons (tC (V.int 4)) tNil))))) (gName 3))
  (tSeq (tAsg (tLc (iList K (tVar 3)) (gTup K 2 (gCons (gName 14) (gCons (gName 15) gNil))) tYes (tTup (tCons (tVar 14) (tCons (tCB (rListQ K) (tCons (tVar 15) tNil)) tNil))) [14, 15]) (gName 4))
  (tSeq (tAsg (tCall (spW0 K P_llot) [] E0 (tCons (tVar 3) (tCons (tVar 2) tNil))) (gName 5))
  (tSeq (tIfS (tOr (tNot (tB (tCall (spP K (P_like 10)) [] E0 (tCons (tCall (spWF0 K P_told19 P_told19D) [] E0 (tCons (tVar 4) (tCons (tVar 2) tNil))) (tCons (tVar 5) tNil))))) (tTest (tOp (rNeD K) (tVar 4) (tVar 3)))) (tRet (tC (V.bl false))) tNext)
  (tSeq (tIfS (tNot (tB (tCall (spP K (P_like 10)) [] E0 (tCons (tCall (spWF0 K P_told19 P_told19D) [] E0 (tCons (tCB (rTupQ K) (tCons (tRevL K (tVar 4)) tNil)) (tCons (tVar 2) tNil))) (tCons (tVar 5) tNil))))) (tRet (tC (V.bl false))) tNext)
  (tSeq (tIfS (tAnd (tTest (tOp rEq (tVar 2) (tC (V.int 2)))) (tNot (tB (tCall (spP K (P_like 10)) [] E0 (tCons (tCallSD (spWF K cs P_lotOfW P_lotOfWD) [V.int 2] (WE W0) (tCons (tVar 4) tNil)) (tCons (tVar 5) tNil)))))) (tRet (tC (V.bl false))) tNext)
  (tSeq (tIfS (tNot (tB (tCall (spP K (P_like 10)) [] E0 (tCons (tLst (tCons (tCall (spW0 K P_nothing) [V.int 2] E0 tNil) (tCons (tCall (spW0 K P_nothing) [] E0 (tCons (tC (V.int 2)) tNil)) (tCons (tCall (spW0 K P_nothing) [] E0 (tCons (tC (V.int 1)) tNil)) tNil)))) (tCons (tLst (tCons (tTup (tCons (tC (V.int 2)) (tCons (tTup tNil) tNil))) (tCons (tTup (tCons (tC (V.int 2)) (tCons (tTup tNil) tNil))) (tCons (tTup (tCons (tC (V.int 1)) (tCons (tTup tNil) tNil))) tNil)))) tNil))))) (tRet (tC (V.bl false))) tNext)
  (tSeq (tAsg (tOp (rCatL K) (tLc (iList K (tVar 3)) (gTup K 2 (gCons (gName 14) (gCons (gName 15) gNil))) tYes (tTup (tCons (tVar 14) (tCons (tCB (rListQ K) (tCons (tVar 15) tNil)) tNil))) [14, 15]) (tLst (tCons (tTup (tCons (tC (V.int 1)) (tCons (tLst (tCons (tCall (spB K P_spot) [] E0 (tCons (tVar 1) (tCons (tVar 2) tNil))) tNil)) tNil))) tNil))) (gName 6))
  (tSeq (tAsg (tC (V.str "")) (gName 7))
  (tSeq (tAsg (tC (V.int 0)) (gName 8))
  (tSeq (tFor (iRng1 (tCons (tOp rAddI (tC (V.int 1)) (tCall (spB K P_pull) [] E0 (tCons (tVar 1) (tCons (tC (V.int 2)) tNil)))) tNil)) (gName 9) (tSeq (tAsg (tCall (spB K P_pull) [] E0 (tCons (tVar 1) (tCons (tCB (rLenQ K) (tCons (tVar 6) tNil)) tNil))) (gName 11))
  (tSeq (tAsg (tCall (spWB K P_bent) [] E0 (tCons (tVar 1) (tCons (tTup (tCons (tC (V.int 2)) (tCons (tLst (tCons (tCall (spB K P_spot) [] E0 (tCons (tVar 1) (tCons (tVar 2) tNil))) tNil)) tNil))) (tCons (tVar 2) tNil)))) (gTup K 2 (gCons (gName 12) (gCons (gName 13) gNil))))
  (tSeq (tDrop (tBM K "list" rIns (tVar 6) (tCons (tVar 11) (tCons (tVar 12) tNil))))
  (tSeq (tAsg (tIf (tOr (tTest (tOp rEq (tVar 9) (tC (V.int 0)))) (tTest (tOp rLeI (tVar 11) (tVar 8)))) (tVar 13) (tVar 7)) (gName 7))
  (tAsg (tVar 11) (gName 8)))))))
  (tSeq (tIfS (tNot (tB (tCall (spP K (P_like 10)) [] E0 (tCons (tCall (spWF0 K P_told19 P_told19D) [] E0 (tCons (tVar 6) (tCons (tVar 2) tNil))) (tCons (tLst (tCons (tVar 7) tNil)) tNil))))) (tRet (tC (V.bl false))) tNext)
  (tSeq (tAsg (tOp (rIx K) (tLst (tCons (tC (V.int 0)) (tCons (tC (V.int 3)) (tCons (tUn rNegI (tC (V.int 1))) (tCons (tC V.non) (tCons (tC (V.str "2")) tNil)))))) (tCall (spB K P_pull) [] E0 (tCons (tVar 1) (tCons (tC (V.int 5)) tNil)))) (gName 10))
  (tSeq (tIfS (tNot (tB (tCall (spP K (P_like 10)) [] E0 (tCons (tLst (tCons (tCall (spWF0 K P_told19 P_told19D) [] E0 (tCons (tVar 6) (tCons (tVar 10) tNil))) (tCons (tCall (spWF0 K P_told19 P_told19D) [] E0 (tCons (tC V.non) (tCons (tVar 10) tNil))) tNil))) (tCons (tLst (tCons (tLst (tCons (tC (V.str "OtherRoom")) tNil)) (tCons (tLst (tCons (tC (V.str "OtherRoom")) tNil)) tNil))) tNil))))) (tRet (tC (V.bl false))) tNext)
  (tRet (tCall (spP K (P_like 10)) [] E0 (tCons (tCall (spWF0 K P_told19 P_told19D) [] E0 (tCons (tOp (rIx K) (tLst (tCons (tC V.non) (tCons (tC (V.str "a")) (tCons tDNewK (tCons (tC (V.int 5)) tNil))))) (tCall (spB K P_pull) [] E0 (tCons (tVar 1) (tCons (tC (V.int 4)) tNil)))) (tCons (tVar 2) tNil))) (tCons (tLst (tCons (tC (V.str "BadLot")) tNil)) tNil)))))))))))))))))))
-- slots of law: 0 _law_script, 1 _law_bag_here, 2 _law_rank, 3 _law_rows_here, 4 _law_handed, 5 _law_due, 6 _law_spoilt, 7 _law_word, 8 _law_first, 9 _law_turn_here, 10 _law_other, 11 _law_at, 12 _law_bent_here, 13 _law_found, 14 _law_weight, 15 _law_spots_here
def BadW (r : Nat) (x : PyData) (z : Str) : Prop := (BentLot x ∧ z = "BadLot") ∨ (BentSpot r x ∧ z = "BadSpot")
theorem told_good {r C : Nat} {rs : List RowS} {x : PyData} {A : Rs → Prop} (h : DrR 40 r C rs) (R : RwS 40 r 6401 rs) (hn : rs.length ≤ 1000) (hx : itemsOf x = some (rs.map encS)) (k : ∀ lt, IsLot (rowsB rs) lt → A (.ok (lotD r lt))) : P_told19 [x, .int r] A := qt_of (by simp (disch := with_unfolding_all
  obtain ⟨x', a, r', N, rs', e, h1, h2, h3⟩ := c_lotD (φ := fun v => A (.ok v)) (ε := fun _ => False) h R hn hx k
  exact .inr (.inr (.inr ⟨x', a, r', N, rs', e, h1, h2, fun lt hlt => ⟨fun z => ((h3 lt hlt).1 z).elim, fun z z2 => (h3 lt hlt).2.1 z z2, fun z z2 => ((h3 lt hlt).2.2 z z2).elim⟩⟩))
  ) only [↓qt_eq])
theorem told_bad {r : Nat} {qs : List RowS} {b : PyData} {post : List PyData} {z : Str} {A : Rs → Prop} (R : RwS 40 r 6401 qs) (hp : post.length ≤ 10000) (hb : BadW r b z) (k : A (.ok (.list [.str z]))) : P_told19 [.list (qs.map encS ++ b :: post), .int r] A := by
  refine .inr (.inr (.inl ⟨_, 40, r, 6401, qs, b, post, rfl, rfl, R, hp, ?_⟩))
  rcases hb with ⟨hb, rfl⟩ | ⟨hb, rfl⟩
  · exact .inl ⟨hb, .inr (.inl ⟨rfl, k⟩)⟩
  · exact .inr ⟨hb, .inr (.inr ⟨rfl, k⟩)⟩
theorem told_room {x y : PyData} {A : Rs → Prop} (hy : y = .none ∨ (∃ z, y = .str z) ∨ ∃ n : Int, y = .int n ∧ n ≠ 1 ∧ n ≠ 2) (k : A (.ok (.list [.str "OtherRoom"]))) : P_told19 [x, y] A := .inl ⟨x, y, rfl, hy, .inl ⟨rfl, k⟩⟩
theorem told_none {r : Nat} {x : PyData} {A : Rs → Prop} (hr : r = 1 ∨ r = 2) (hx : itemsOf x = none) (k : A (.ok (.list [.str "BadLot"]))) : P_told19 [x, .int r] A := .inr (.inl ⟨x, r, rfl, hr, hx, .inr (.inl ⟨rfl, k⟩)⟩)
theorem told_dict {r : Nat} {A : Rs → Prop} (hr : r = 1 ∨ r = 2) (k : A (.ok (.list [.str "BadLot"]))) : P_told19D [.int r] A := ⟨r, rfl, hr, .inr (.inl ⟨rfl, k⟩)⟩
theorem wt_rev (rows : List Row) (b : Body) : wt rows.reverse b = wt rows b := by
  induction rows with
  | nil => rfl
  | cons p rows ih => rw [List.reverse_cons, wt_app, ih, show p :: rows = [p] ++ rows from rfl, wt_app]; omega
theorem c_bent {r : Nat} {s : Spot} {φ : PyData → Prop} {ε : Xw → Prop} (hr : r = 1 ∨ r = 2) (gs : Gds 14 s) (ls : s.length = r) (k : ∀ x z, BadW r x z → φ (.tuple [x, .str z])) : P_bent [.tuple [.int 2, .list [frs s]], .int r] (rE φ ε) := ⟨r, s, rfl, hr, gs, ls, fun x hx => k x _ (.inl ⟨hx, rfl⟩), fun x hx => k x _ (.inr ⟨hx, rfl⟩)⟩
theorem ins_low {qs : List RowS} {post : List PyData} {x : PyData} {j : Nat} (h : j ≤ qs.length) : (qs.map encS ++ post).take j ++ [x] ++ (qs.map encS ++ post).drop j = (qs.take j).map encS ++ x :: (qs.map encS ++ post).drop j := by
  rw [List.take_append_of_le_length (by rw [List.length_map]; exact h), List.map_take]
  simp
theorem ins_high {A post : List PyData} {b x : PyData} {j : Nat} (h : A.length < j) : (A ++ b :: post).take j ++ [x] ++ (A ++ b :: post).drop j = A ++ b :: (post.take (j - A.length - 1) ++ [x] ++ post.drop (j - A.length - 1)) := by
  obtain ⟨m, rfl⟩ : ∃ m, j = A.length + (m + 1) := ⟨j - A.length - 1, by omega⟩
  rw [List.take_append, List.drop_append]
  simp [List.take_of_length_le, List.drop_eq_nil_of_le]
/-- the list of rows behind k turns -/
def Inv19 (r : Nat) (qs : List RowS) (k : Nat) (L : List PyData) (e7 e8 : En) : Prop := 1 ≤ L.length ∧ L.length ≤ 6 + k ∧ ((k = 0 ∧ L = qs.map encS ∧ e7 = .d (.str "") ∧ e8 = .d (.int 0)) ∨ (1 ≤ k ∧ ∃ (q1 : List RowS) (b : PyData) (post : List PyData) (z : Str) (m : Nat),
  (∀ p ∈ q1, p ∈ qs) ∧ q1.length ≤ qs.length ∧ L = q1.map encS ++ b :: post ∧ BadW r b z ∧ e7 = .d (.str z) ∧ e8 = .d (.int m) ∧ (k = 1 → m = q1.length)))
theorem rd_law (ns : List Int) (hl : ns.length ≤ 63) : SW K cs W0 (t_law K cs) (.d (.list (ns.map PyData.int)) :: .bag :: List.replicate (16 - 2) .un) (fun o => o = .rt (.bool true)) := qt_of (by simp (disch := with_unfolding_all
  unfold t_law
  refine sw_seq ?_
  walk_at "s"
  refine c_room fun r hr => ?_
  walk_at "s"
  refine sw_seq ?_
  walk_at "s"
  refine ⟨r, 4, 4, rfl, hr, by decide, by decide, by decide, fun rs hD14 hrl => ?_⟩
  have hD := hD14.mono (b := 40) (by decide)
  walk_at "s"
  have R1 : RwS 40 r 6401 rs := hD.rws hr (by decide) (by omega) (by omega)
  have en : ∀ p ∈ rs, encS p = .tuple [.int p.w, .list (p.ss.map frs)] := fun p mp => by unfold encS; rw [hD.tf p mp]; rfl
  have DV : DrR 40 r 5 rs.reverse := ⟨fun p hp => hD.wl p (by simpa using hp), fun p hp => hD.tf p (by simpa using hp), fun p hp => hD.sp p (by simpa using hp)⟩
  have RV : RwS 40 r 6401 rs.reverse := DV.rws hr (by decide) (by simp; omega) (by simp; omega)
  have okE : okD 9 (.list (rs.map encS)) = true := okD_list (n := 8) (by rw [List.length_map]; omega) fun y hy => by
    obtain ⟨p, mp, rfl⟩ := List.mem_map.mp hy
    rw [en p mp]
    refine okD_tup (n := 7) (by simp) fun y hy => ?_
    rcases List.mem_cons.mp hy with rfl | hy
    · rfl
    rw [List.mem_singleton.mp hy]
    refine okD_list (n := 6) (by rw [List.length_map]; have := (hD.sp p mp).2.2; omega) fun y hy => ?_
    obtain ⟨s, ms, rfl⟩ := List.mem_map.mp hy
    exact okD_frs (n := 4) (by have := ((hD.sp p mp).1 s ms).2; omega)
  have canE : (PyData.list (rs.map encS)).canLay0 = true := can_list fun y hy => by
    obtain ⟨p, mp, rfl⟩ := List.mem_map.mp hy
    rw [en p mp]
    refine can_tup fun y hy => ?_
    rcases List.mem_cons.mp hy with rfl | hy
    · rfl
    rw [List.mem_singleton.mp hy]
    refine can_list fun y hy => ?_
    obtain ⟨s, ms, rfl⟩ := List.mem_map.mp hy
    exact can_frs s
  refine sw_seq ?_
  walk_at "s"
  refine lcM (f := encS) encS (by omega) (unk2 rfl rfl) (fun p mp => ?_) ?_
  · rw [en p mp]
    walk_at "s"
    rfl
  walk_at "s"
  refine sw_seq ?_
  walk_at "s"
  refine ⟨_, 40, r, 6401, rs, rfl, rfl, R1, by omega, fun lt hlt => ?_⟩
  walk_at "s"
  have okL : ∀ n, okD (n + 6) (lotD r lt) = true := fun n => okD_lot (lot_sub hlt R1.rws)
  refine sw_seq ?_
  walk_at "s"
  refine ew_callF0 (des := []) (fun _ => .nil) (eo_of ?_)
  walk_at "s"
  refine told_good hD R1 (by omega) rfl fun l2 hl2 => ?_
  rw [isLot_uniq (fun _ => rfl) hl2 hlt]
  walk_at "s"
  refine c_like rfl (okL 3) ?_
  walk_at "s"
  refine ⟨shaped_ok (n := 9) canE okE (by decide), shaped_ok (n := 9) canE okE (by decide), ?_⟩
  rw [eqv_self okE]
  walk_at "s"
  refine sw_seq ?_
  walk_at "s"
  refine ew_callF0 (des := []) (fun _ => .nil) (eo_of ?_)
  walk_at "s"
  refine told_good (rs := rs.reverse) ⟨fun p hp => hD.wl p (by simpa using hp), fun p hp => hD.tf p (by simpa using hp), fun p hp => hD.sp p (by simpa using hp)⟩ RV (by simp; omega) (by rw [List.map_reverse]; rfl) fun l2 hl2 => ?_
  rw [isLot_uniq (fun b => by rw [show rowsB rs.reverse = (rowsB rs).reverse by unfold rowsB; rw [List.map_reverse]]; exact wt_rev _ b) hl2 hlt]
  walk_at "s"
  refine c_like rfl (okL 3) ?_
  walk_at "s"
  refine sw_cut (fun G => G = [.d (.list (ns.map PyData.int)), .bag, .d (.int r), .d (.list (rs.map encS)), .d (.list (rs.map encS)), .d (lotD r lt), .un, .un, .un, .un, .un, .un, .un, .un, .un, .un]) ?_ ?_
  · walk_at "s"
    refine cnd_d (fun h2 => ?_) (fun h2 => ?_)
    · walk_at "s"
      refine ew_callF (des := [.int 2]) (fun _ => .cons (.int 2) .nil) (eo_of ?_)
      walk_at "s"
      have r2 : r = 2 := by omega
      subst r2
      refine .inr (.inr (.inr (c_lotD hD R1 (by omega) rfl fun l2 hl2 => ?_)))
      rw [isLot_uniq (fun _ => rfl) hl2 hlt]
      walk_at "s"
      refine c_like rfl (okL 3) ?_
      walk_at "s"
      rfl
    · walk_at "s"
      rfl
  rintro _ rfl
  refine sw_seq ?_
  walk_at "s"
  refine ew_call0 (des := [.int 2]) (fun _ => .cons (.int 2) .nil) ?_
  walk_at "s"
  refine ⟨2, rfl, ?_⟩
  walk_at "s"
  refine ⟨2, rfl, ?_⟩
  walk_at "s"
  refine ⟨1, rfl, ?_⟩
  walk_at "s"
  refine c_like rfl rfl ?_
  walk_at "s"
  refine sw_seq (sw_asgF ?_)
  walk_at "ef"
  walk_at "s"
  refine lcM (f := encS) encS (by omega) (unk2 rfl rfl) (fun p mp => ?_) ?_
  · rw [en p mp]
    walk_at "s"
    rfl
  walk_at "s"
  rename_i s0 g0 l0
  have l0 : s0.length = r := by rw [l0]; omega
  refine ⟨by simp; omega, ?_⟩
  have DQ : DrR 40 r 5 (rs ++ [(⟨1, false, [s0]⟩ : RowS)]) := hD.snoc (DrR.one (by decide) (by decide) (fun t ht => by rw [List.mem_singleton.mp ht]; exact ⟨g0.mono (by decide), l0⟩) (by simp) (by simp))
  have eQ : rs.map encS ++ [PyData.tuple [.int 1, .list [frs s0]]] = (rs ++ [(⟨1, false, [s0]⟩ : RowS)]).map encS := by rw [List.map_append]; rfl
  rw [eQ]
  have lQ : (rs ++ [(⟨1, false, [s0]⟩ : RowS)]).length ≤ 6 := by simp; omega
  have nQ : 1 ≤ (rs ++ [(⟨1, false, [s0]⟩ : RowS)]).length := by simp
  generalize rs ++ [(⟨1, false, [s0]⟩ : RowS)] = qs at DQ lQ nQ
  refine sq_nx ?_
  walk_at "s"
  refine sw_seq ?_
  walk_at "s"
  refine sw_seq ?_
  walk_at "s"
  refine sw_seq ?_
  walk_at "s"
  rename_i v v0 v1
  refine forN (fun k G => ∃ (L : List PyData) (e7 e8 e9 e11 e12 e13 : En), G = [.d (.list (ns.map PyData.int)), .bag, .d (.int r), .d (.list (rs.map encS)), .d (.list (rs.map encS)), .d (lotD r lt), .ow (ol L), e7, e8, e9, .un, e11, e12, e13, .un, .un] ∧ Inv19 r qs k L e7 e8) ⟨_, _, _, _, _, _, _, rfl, by rw [List.length_map]; omega, by rw [List.length_map]; omega, .inl ⟨rfl, rfl, rfl, rfl⟩⟩ ?_ ?_
  · rintro k _ hk ⟨L, e7, e8, e9, e11, e12, e13, rfl, hL1, hL2, hI⟩
    have hk2 : k < 2 := by omega
    walk_at "s"
    refine sw_seq ?_
    walk_at "s"
    rename_i j j0 j1
    obtain ⟨m, rfl⟩ : ∃ m : Nat, j = (m : Int) := ⟨j.toNat, by omega⟩
    refine sw_seq ?_
    walk_at "s"
    rename_i s1 g1 l1
    have l1 : s1.length = r := by rw [l1]; omega
    refine c_bent hr (g1.mono (by decide)) l1 fun x z hx => ?_
    walk_at "s"
    refine sw_seq ?_
    refine sw_insI (i := 6) (xs := L) rfl (by omega) ?_
    walk_at "s"
    refine ⟨m, rfl, by omega, ?_⟩
    walk_at "s"
    refine sw_seq ?_
    rcases hI with ⟨rfl, rfl, rfl, rfl⟩ | ⟨hk1, q1, b, post, z', m', hq, lq, rfl, hb, rfl, rfl, hm⟩
    · rw [List.length_map] at j1
      have ei := ins_low (qs := qs) (post := []) (x := x) (j := m) (by omega)
      rw [List.append_nil] at ei
      rw [ei]
      walk_at "s"
      refine cnd_yes rfl ?_
      walk_at "s"
      refine ⟨_, _, _, _, _, _, _, rfl, by simp; omega, by simp; omega, .inr ⟨by decide, qs.take m, x, _, z, m, fun p hp => List.mem_of_mem_take hp, by rw [List.length_take]; omega, rfl, hx, rfl, rfl, fun _ => by rw [List.length_take]; omega⟩⟩
    · obtain rfl : k = 1 := by omega
      obtain rfl := hm rfl
      walk_at "s"
      refine cnd_no (by decide) ?_
      walk_at "s"
      refine cnd_d (fun hle => ?_) (fun hle => ?_)
      · rw [ins_low (qs := q1) (post := b :: post) (x := x) (j := m) (by omega)]
        walk_at "s"
        refine ⟨_, _, _, _, _, _, _, rfl, by simp; omega, by simp at hL2 ⊢; omega, .inr ⟨by decide, q1.take m, x, _, z, m, fun p hp => hq p (List.mem_of_mem_take hp), by rw [List.length_take]; omega, rfl, hx, rfl, rfl, fun h => by omega⟩⟩
      · have := ins_high (A := q1.map encS) (post := post) (b := b) (x := x) (j := m) (by rw [List.length_map]; omega)
        rw [this]
        walk_at "s"
        refine ⟨_, _, _, _, _, _, _, rfl, by simp; omega, by simp at hL2 ⊢; omega, .inr ⟨by decide, q1, b, _, z', m, hq, lq, rfl, hb, rfl, rfl, fun h => by omega⟩⟩
  · rintro _ ⟨L, e7, e8, e9, e11, e12, e13, rfl, hL1, hL2, hI⟩
    rcases hI with ⟨h0, _⟩ | ⟨hk1, q1, b, post, z, m', hq, lq, rfl, hb, rfl, rfl, hm⟩
    · omega
    have D1 : DrR 40 r 5 q1 := ⟨fun p hp => DQ.wl p (hq p hp), fun p hp => DQ.tf p (hq p hp), fun p hp => DQ.sp p (hq p hp)⟩
    have RQ : RwS 40 r 6401 q1 := D1.rws hr (by decide) (by omega) (by omega)
    have lp : post.length ≤ 10000 := by simp at hL2; omega
    refine sw_freeze (i := 6) rfl ?_
    walk_at "s"
    refine sw_seq ?_
    walk_at "s"
    refine ew_callF0 (des := []) (fun _ => .nil) (eo_of ?_)
    walk_at "s"
    refine told_bad RQ lp hb ?_
    walk_at "s"
    refine c_like rfl rfl ?_
    walk_at "s"
    refine sw_seq ?_
    walk_at "s"
    refine ⟨by simp, _, rfl, ?_⟩
    walk_at "s"
    rename_i p p0 p1
    have hz : ∃ y, atI [PyData.int 0, .int 3, .int (-1), .none, .str "2"] p = some y ∧ (y = .none ∨ (∃ z, y = .str z) ∨ ∃ n : Int, y = .int n ∧ n ≠ 1 ∧ n ≠ 2) := by
      have c : p = ((0 : Nat) : Int) ∨ p = ((1 : Nat) : Int) ∨ p = ((2 : Nat) : Int) ∨ p = ((3 : Nat) : Int) ∨ p = ((4 : Nat) : Int) := by omega
      rcases c with rfl | rfl | rfl | rfl | rfl
      · exact ⟨_, atI_nat rfl, .inr (.inr ⟨_, rfl, by decide, by decide⟩)⟩
      · exact ⟨_, atI_nat rfl, .inr (.inr ⟨_, rfl, by decide, by decide⟩)⟩
      · exact ⟨_, atI_nat rfl, .inr (.inr ⟨_, rfl, by decide, by decide⟩)⟩
      · exact ⟨_, atI_nat rfl, .inl rfl⟩
      · exact ⟨_, atI_nat rfl, .inr (.inl ⟨_, rfl⟩)⟩
    obtain ⟨y, ay, hy⟩ := hz
    refine ⟨y, ay, ?_⟩
    walk_at "s"
    refine sw_seq ?_
    walk_at "s"
    refine ew_callF0 (des := []) (fun _ => .nil) (eo_of ?_)
    walk_at "s"
    refine told_room hy ?_
    walk_at "s"
    refine ew_callF0 (des := []) (fun _ => .nil) (eo_of ?_)
    walk_at "s"
    refine told_room hy ?_
    walk_at "s"
    refine c_like rfl rfl ?_
    walk_at "s"
    refine ew_callF0 (des := []) (fun _ => .nil) (eo_pick (ao_cons (eo_of ?_)))
    walk_at "s"
    refine ao_cons (eo_of ?_)
    walk_at "s"
    refine ao_cons (eo_dct ?_)
    refine ao_cons (eo_of ?_)
    walk_at "s"
    refine ao_nil ⟨by decide, ?_⟩
    walk_at "s"
    rename_i q q0 q1'
    have c : q = ((0 : Nat) : Int) ∨ q = ((1 : Nat) : Int) ∨ q = ((2 : Nat) : Int) ∨ q = ((3 : Nat) : Int) := by omega
    rcases c with rfl | rfl | rfl | rfl
    · refine ⟨0, some .none, rfl, rfl, ?_⟩
      walk_at "s"
      refine told_none hr rfl ?_
      walk_at "s"
      refine c_like rfl rfl ?_
      walk_at "s"
      rfl
    · refine ⟨1, some (.str "a"), rfl, rfl, ?_⟩
      walk_at "s"
      refine told_none hr rfl ?_
      walk_at "s"
      refine c_like rfl rfl ?_
      walk_at "s"
      rfl
    · refine ⟨2, none, rfl, rfl, ?_⟩
      walk_at "s"
      refine told_dict hr ?_
      walk_at "s"
      refine c_like rfl rfl ?_
      walk_at "s"
      rfl
    · refine ⟨3, some (.int 5), rfl, rfl, ?_⟩
      walk_at "s"
      refine told_none hr rfl ?_
      walk_at "s"
      refine c_like rfl rfl ?_
      walk_at "s"
      rfl
  ) only [↓qt_eq])
theorem ok_law (T : TX K mg) {f : Addr} {fd : FuncData} (F : Fun K "law" "law" s_law f fd) : FnOk Pg w K mg base CX0 12 f fd ["_law_script"] (spP K PLaw) :=
  okLawW T.cs F sc_law rfl (by decide) (fun ns hl cdv A outer sh H E hr => ⟨t_law K T.cs, (pss_cons (ps_set (i := 1) sc_law.nd rfl (by first | exact Or.inl rfl | exact Or.inr rfl) (pe_call (ok__law_bag T) (hr.mono (by decide)) (by rfl) T.g__law_bag T.F__law_bag.kp T.b__law_bag .nil pass0 (pa_cons (pv 0) pa_nil)))
      (pss_cons (ps_set (i := 2) sc_law.nd rfl (by first | exact Or.inl rfl | exact Or.inr rfl) (pe_call (ok__law_room T) (hr.mono (by decide)) (by rfl) T.g__law_room T.F__law_room.kp T.b__law_room .nil pass0 (pa_cons (pv 1) pa_nil)))
      (pss_cons (ps_set (i := 3) sc_law.nd rfl (by first | exact Or.inl rfl | exact Or.inr rfl) (pe_call (ok__law_rows T) (hr.mono (by decide)) (by rfl) T.g__law_rows T.F__law_rows.kp T.b__law_rows .nil pass0 (pa_cons (pv 1) (pa_cons (pv 2) (pa_cons pe_int (pa_cons pe_int pa_nil))))))
      (pss_cons (ps_setLc (i := 4) (own := [("_law_weight", 14), ("_law_spots_here", 15)]) (g := (gTup K 2 (gCons (gName 14) (gCons (gName 15) gNil)))) (tt := tYes) rfl sc_law.nd rfl rfl (sw_true rfl rfl rfl (by decide +kernel)) (pi_list (pv 3)) (blkOk_by (own := [("_law_weight", 14), ("_law_spots_here", 15)]) (N := ["_law_script", "_law_bag_here", "_law_rank", "_law_rows_here", "_law_handed", "_law_due", "_law_spoilt", "_law_word", "_law_first", "_law_turn_here", "_law_other", "_law_at", "_law_bent_here", "_law_found", "_law_weight", "_law_spots_here"]) (sc := defScope s_law) (by decide +kernel)) (fun _ _ _ _ _ => (pg_tup rfl (pgs_cons (pg_name (i := 14) sc_law.nd rfl (by first | exact Or.inl rfl | exact Or.inr rfl)) (pgs_cons (pg_name (i := 15) sc_law.nd rfl (by first | exact Or.inl rfl | exact Or.inr rfl)) pgs_nil)))) (fun _ _ _ _ _ => pts_nil) (fun _ _ _ _ _ => (pe_tup (pa_cons (pv 14) (pa_cons (pe_callTy c_list (by rfl) T.n_list (by decide +kernel) (pa_cons (pv 15) pa_nil)) pa_nil)))))
      (pss_cons (ps_set (i := 5) sc_law.nd rfl (by first | exact Or.inl rfl | exact Or.inr rfl) (pe_call (ok__law_lot T) (hr.mono (by decide)) (by rfl) T.g__law_lot T.F__law_lot.kp T.b__law_lot .nil pass0 (pa_cons (pv 3) (pa_cons (pv 2) pa_nil))))
      (pss_cons (ps_if (PW.pt (pw_or (pt_not (pt_val (pe_call (ok__law_like T 10) (hr.mono (by decide)) (by rfl) T.g__law_like T.F__law_like.kp T.b__law_like .nil pass0 (pa_cons (pe_call (ok__law_told T) (hr.mono (by decide)) (by rfl) T.g__law_told T.F__law_told.kp T.b__law_told .nil pass0 (pa_cons (pv 4) (pa_cons (pv 2) pa_nil))) (pa_cons (pv 5) pa_nil))))) (pw_or1 (pt_cmpR (op_neD hr.units) (pv 4) (pv 3) (nomark _))))) (pss_one (ps_ret pe_bl)) pss_nil)
      (pss_cons (ps_if (pt_not (pt_val (pe_call (ok__law_like T 10) (hr.mono (by decide)) (by rfl) T.g__law_like T.F__law_like.kp T.b__law_like .nil pass0 (pa_cons (pe_call (ok__law_told T) (hr.mono (by decide)) (by rfl) T.g__law_told T.F__law_told.kp T.b__law_told .nil pass0 (pa_cons (pe_callTy c_tuple (by rfl) T.n_tuple (by decide +kernel) (pa_cons (pe_revL (pv 4)) pa_nil)) (pa_cons (pv 2) pa_nil))) (pa_cons (pv 5) pa_nil))))) (pss_one (ps_ret pe_bl)) pss_nil)
      (pss_cons (ps_if (PW.pt (pw_and (pt_cmpR op_eq (pv 2) pe_int (nomark _)) (pw_and1 (pt_not (pt_val (pe_call (ok__law_like T 10) (hr.mono (by decide)) (by rfl) T.g__law_like T.F__law_like.kp T.b__law_like .nil pass0 (pa_cons (pe_callSD (ok_lot_of T) (hr.mono (by decide)) (by rfl) T.g_lot_of T.F_lot_of.kp T.b1_lot_of T.v1_lot_of (fun σ => passAt takes0 σ) (pa_cons (pv 4) pa_nil)) (pa_cons (pv 5) pa_nil)))))))) (pss_one (ps_ret pe_bl)) pss_nil)
      (pss_cons (ps_if (pt_not (pt_val (pe_call (ok__law_like T 10) (hr.mono (by decide)) (by rfl) T.g__law_like T.F__law_like.kp T.b__law_like .nil pass0 (pa_cons (pe_lst (pa_cons (pe_call0 (ok_nothing T) (hr.mono (by decide)) (by rfl) T.g_nothing T.F_nothing.kp T.b1_nothing T.v1_nothing pass0) (pa_cons (pe_call (ok_nothing T) (hr.mono (by decide)) (by rfl) T.g_nothing T.F_nothing.kp T.b_nothing .nil pass0 (pa_cons pe_int pa_nil)) (pa_cons (pe_call (ok_nothing T) (hr.mono (by decide)) (by rfl) T.g_nothing T.F_nothing.kp T.b_nothing .nil pass0 (pa_cons pe_int pa_nil)) pa_nil)))) (pa_cons (pe_lst (pa_cons (pe_tup (pa_cons pe_int (pa_cons (pe_tup pa_nil) pa_nil))) (pa_cons (pe_tup (pa_cons pe_int (pa_cons (pe_tup pa_nil) pa_nil))) (pa_cons (pe_tup (pa_cons pe_int (pa_cons (pe_tup pa_nil) pa_nil))) pa_nil)))) pa_nil))))) (pss_one (ps_ret pe_bl)) pss_nil)
      (pss_cons (ps_set (i := 6) sc_law.nd rfl (by first | exact Or.inl rfl | exact Or.inr rfl) (pe_op op_catL (pe_lc (own := [("_law_weight", 14), ("_law_spots_here", 15)]) (g := (gTup K 2 (gCons (gName 14) (gCons (gName 15) gNil)))) (tt := tYes) rfl sc_law.nd (pi_list (pv 3)) (blkOk_by (own := [("_law_weight", 14), ("_law_spots_here", 15)]) (N := ["_law_script", "_law_bag_here", "_law_rank", "_law_rows_here", "_law_handed", "_law_due", "_law_spoilt", "_law_word", "_law_first", "_law_turn_here", "_law_other", "_law_at", "_law_bent_here", "_law_found", "_law_weight", "_law_spots_here"]) (sc := defScope s_law) (by decide +kernel)) (fun _ _ _ _ _ => (pg_tup rfl (pgs_cons (pg_name (i := 14) sc_law.nd rfl (by first | exact Or.inl rfl | exact Or.inr rfl)) (pgs_cons (pg_name (i := 15) sc_law.nd rfl (by first | exact Or.inl rfl | exact Or.inr rfl)) pgs_nil)))) (fun _ _ _ _ _ => pts_nil) (fun _ _ _ _ _ => (pe_tup (pa_cons (pv 14) (pa_cons (pe_callTy c_list (by rfl) T.n_list (by decide +kernel) (pa_cons (pv 15) pa_nil)) pa_nil))))) (pe_lst (pa_cons (pe_tup (pa_cons pe_int (pa_cons (pe_lst (pa_cons (pe_call (ok__law_spot T) (hr.mono (by decide)) (by rfl) T.g__law_spot T.F__law_spot.kp T.b__law_spot .nil pass0 (pa_cons (pv 1) (pa_cons (pv 2) pa_nil))) pa_nil)) pa_nil))) pa_nil))))
      (pss_cons (ps_set (i := 7) sc_law.nd rfl (by first | exact Or.inl rfl | exact Or.inr rfl) pe_str)
      (pss_cons (ps_set (i := 8) sc_law.nd rfl (by first | exact Or.inl rfl | exact Or.inr rfl) pe_int)
      (pss_cons (ps_for PassesOwn.never rfl (pi_range1 (by rfl) T.n_range (pa_cons (pe_op op_addI pe_int (pe_call (ok__law_pull T) (hr.mono (by decide)) (by rfl) T.g__law_pull T.F__law_pull.kp T.b__law_pull .nil pass0 (pa_cons (pv 1) (pa_cons pe_int pa_nil)))) pa_nil)) (pg_name (i := 9) sc_law.nd rfl (by first | exact Or.inl rfl | exact Or.inr rfl)) (pss_cons (ps_set (i := 11) sc_law.nd rfl (by first | exact Or.inl rfl | exact Or.inr rfl) (pe_call (ok__law_pull T) (hr.mono (by decide)) (by rfl) T.g__law_pull T.F__law_pull.kp T.b__law_pull .nil pass0 (pa_cons (pv 1) (pa_cons (pe_callB c_len (by rfl) T.n_len PySem.boot_len (pa_cons (pv 6) pa_nil)) pa_nil))))
      (pss_cons (ps_asg (pe_call (ok__law_bent T) (hr.mono (by decide)) (by rfl) T.g__law_bent T.F__law_bent.kp T.b__law_bent .nil pass0 (pa_cons (pv 1) (pa_cons (pe_tup (pa_cons pe_int (pa_cons (pe_lst (pa_cons (pe_call (ok__law_spot T) (hr.mono (by decide)) (by rfl) T.g__law_spot T.F__law_spot.kp T.b__law_spot .nil pass0 (pa_cons (pv 1) (pa_cons (pv 2) pa_nil))) pa_nil)) pa_nil))) (pa_cons (pv 2) pa_nil)))) (pg_tup rfl (pgs_cons (pg_name (i := 12) sc_law.nd rfl (by first | exact Or.inl rfl | exact Or.inr rfl)) (pgs_cons (pg_name (i := 13) sc_law.nd rfl (by first | exact Or.inl rfl | exact Or.inr rfl)) pgs_nil))))
      (pss_cons (ps_expr (pe_bm PySem.F.plainAttrs_list PySem.F.slot_list_insert PySem.F.type_list_insert mt_ins (pv 6) (pa_cons (pv 11) (pa_cons (pv 12) pa_nil))))
      (pss_cons (ps_set (i := 7) sc_law.nd rfl (by first | exact Or.inl rfl | exact Or.inr rfl) (pe_ifExp (PW.pt (pw_or (pt_cmpR op_eq (pv 9) pe_int (nomark _)) (pw_or1 (pt_cmpR op_leI (pv 11) (pv 8) (nomark _))))) (pv 13) (pv 7)))
      (pss_one (ps_set (i := 8) sc_law.nd rfl (by first | exact Or.inl rfl | exact Or.inr rfl) (pv 11))))))))
      (pss_cons (ps_if (pt_not (pt_val (pe_call (ok__law_like T 10) (hr.mono (by decide)) (by rfl) T.g__law_like T.F__law_like.kp T.b__law_like .nil pass0 (pa_cons (pe_call (ok__law_told T) (hr.mono (by decide)) (by rfl) T.g__law_told T.F__law_told.kp T.b__law_told .nil pass0 (pa_cons (pv 6) (pa_cons (pv 2) pa_nil))) (pa_cons (pe_lst (pa_cons (pv 7) pa_nil)) pa_nil))))) (pss_one (ps_ret pe_bl)) pss_nil)
      (pss_cons (ps_set (i := 10) sc_law.nd rfl (by first | exact Or.inl rfl | exact Or.inr rfl) (pe_ix ix_seq (pe_lst (pa_cons pe_int (pa_cons pe_int (pa_cons (pe_un un_negI pe_int) (pa_cons pe_non (pa_cons pe_str pa_nil)))))) (pe_call (ok__law_pull T) (hr.mono (by decide)) (by rfl) T.g__law_pull T.F__law_pull.kp T.b__law_pull .nil pass0 (pa_cons (pv 1) (pa_cons pe_int pa_nil))) (fun _ _ => rfl)))
      (pss_cons (ps_if (pt_not (pt_val (pe_call (ok__law_like T 10) (hr.mono (by decide)) (by rfl) T.g__law_like T.F__law_like.kp T.b__law_like .nil pass0 (pa_cons (pe_lst (pa_cons (pe_call (ok__law_told T) (hr.mono (by decide)) (by rfl) T.g__law_told T.F__law_told.kp T.b__law_told .nil pass0 (pa_cons (pv 6) (pa_cons (pv 10) pa_nil))) (pa_cons (pe_call (ok__law_told T) (hr.mono (by decide)) (by rfl) T.g__law_told T.F__law_told.kp T.b__law_told .nil pass0 (pa_cons pe_non (pa_cons (pv 10) pa_nil))) pa_nil))) (pa_cons (pe_lst (pa_cons (pe_lst (pa_cons pe_str pa_nil)) (pa_cons (pe_lst (pa_cons pe_str pa_nil)) pa_nil))) pa_nil))))) (pss_one (ps_ret pe_bl)) pss_nil)
      (pss_one (ps_ret (pe_call (ok__law_like T 10) (hr.mono (by decide)) (by rfl) T.g__law_like T.F__law_like.kp T.b__law_like .nil pass0 (pa_cons (pe_call (ok__law_told T) (hr.mono (by decide)) (by rfl) T.g__law_told T.F__law_told.kp T.b__law_told .nil pass0 (pa_cons (pe_ix ix_seq (pe_lst (pa_cons pe_non (pa_cons pe_str (pa_cons pe_dnewK (pa_cons pe_int pa_nil))))) (pe_call (ok__law_pull T) (hr.mono (by decide)) (by rfl) T.g__law_pull T.F__law_pull.kp T.b__law_pull .nil pass0 (pa_cons (pv 1) (pa_cons pe_int pa_nil))) (fun _ _ => rfl)) (pa_cons (pv 2) pa_nil))) (pa_cons (pe_lst (pa_cons pe_str pa_nil)) pa_nil))))))))))))))))))))), rd_law ns hl⟩)
end
theorem lel1 {α : Type} {us : List α} (hl : us.length = 1) : ∃ a0, us = [a0] := match us, hl with | [a0], _ => ⟨a0, rfl⟩
theorem lel2 {α : Type} {us : List α} (hl : us.length = 2) : ∃ a0 a1, us = [a0, a1] := match us, hl with | [a0, a1], _ => ⟨a0, a1, rfl⟩
theorem lel3 {α : Type} {us : List α} (hl : us.length = 3) : ∃ a0 a1 a2, us = [a0, a1, a2] := match us, hl with | [a0, a1, a2], _ => ⟨a0, a1, a2, rfl⟩
theorem lel4 {α : Type} {us : List α} (hl : us.length = 4) : ∃ a0 a1 a2 a3, us = [a0, a1, a2, a3] := match us, hl with | [a0, a1, a2, a3], _ => ⟨a0, a1, a2, a3, rfl⟩
theorem lel5 {α : Type} {us : List α} (hl : us.length = 5) : ∃ a0 a1 a2 a3 a4, us = [a0, a1, a2, a3, a4] := match us, hl with | [a0, a1, a2, a3, a4], _ => ⟨a0, a1, a2, a3, a4, rfl⟩
theorem lel6 {α : Type} {us : List α} (hl : us.length = 6) : ∃ a0 a1 a2 a3 a4 a5, us = [a0, a1, a2, a3, a4, a5] := match us, hl with | [a0, a1, a2, a3, a4, a5], _ => ⟨a0, a1, a2, a3, a4, a5, rfl⟩
theorem lel7 {α : Type} {us : List α} (hl : us.length = 7) : ∃ a0 a1 a2 a3 a4 a5 a6, us = [a0, a1, a2, a3, a4, a5, a6] := match us, hl with | [a0, a1, a2, a3, a4, a5, a6], _ => ⟨a0, a1, a2, a3, a4, a5, a6, rfl⟩
theorem lel8 {α : Type} {us : List α} (hl : us.length = 8) : ∃ a0 a1 a2 a3 a4 a5 a6 a7, us = [a0, a1, a2, a3, a4, a5, a6, a7] := match us, hl with | [a0, a1, a2, a3, a4, a5, a6, a7], _ => ⟨a0, a1, a2, a3, a4, a5, a6, a7, rfl⟩
theorem all_mk {l : PySem.W.OpenLaw} {w : World} {K : PySem.W.Frag} {h : Heap} {mg : Str → Option Value} {fa f0 f1 f2 f3 f4 f5 f6 f7 f8 f9 f10 f11 f12 f13 f14 f15 f16 f17 f18 f19 f20 f21 f22 f23 f24 f25 f26 f27 f28 f29 f30 f31 f32 f33 f34 f35 f36 f37 f38 f39 f40 f41 f42 f43 f44 f45 f46 f47 f48 f49 f50 f51 f52 : Addr} (X : K.In h) (G : h.Ns mainGlobals mg) (hfa : mg "law" = some (.ref fa))
    {od0 an0 : Option Addr} {sl0 : Array (Option Value)} {oc0 kV0 dc0 pm0 cd0 ct0 : Value}
    {od1 an1 : Option Addr} {sl1 : Array (Option Value)} {oc1 kV1 dc1 pm1 cd1 ct1 : Value}
    {od2 an2 : Option Addr} {sl2 : Array (Option Value)} {oc2 kV2 dc2 pm2 cd2 ct2 : Value}
    {od3 an3 : Option Addr} {sl3 : Array (Option Value)} {oc3 kV3 dc3 pm3 cd3 ct3 : Value}
    {od4 an4 : Option Addr} {sl4 : Array (Option Value)} {oc4 kV4 dc4 pm4 cd4 ct4 : Value}
    {od5 an5 : Option Addr} {sl5 : Array (Option Value)} {oc5 kV5 dc5 pm5 cd5 ct5 : Value}
    {od6 an6 : Option Addr} {sl6 : Array (Option Value)} {oc6 kV6 dc6 pm6 cd6 ct6 : Value}
    {od7 an7 : Option Addr} {sl7 : Array (Option Value)} {oc7 kV7 dc7 pm7 cd7 ct7 : Value}
    {od8 an8 : Option Addr} {sl8 : Array (Option Value)} {oc8 kV8 dc8 pm8 cd8 ct8 : Value}
    {od9 an9 : Option Addr} {sl9 : Array (Option Value)} {oc9 kV9 dc9 pm9 cd9 ct9 : Value}
    {od10 an10 : Option Addr} {sl10 : Array (Option Value)} {oc10 kV10 dc10 pm10 cd10 ct10 : Value}
    {od11 an11 : Option Addr} {sl11 : Array (Option Value)} {oc11 kV11 dc11 pm11 cd11 ct11 : Value}
    {od12 an12 : Option Addr} {sl12 : Array (Option Value)} {oc12 kV12 dc12 pm12 cd12 ct12 : Value}
    {od13 an13 : Option Addr} {sl13 : Array (Option Value)} {oc13 kV13 dc13 pm13 cd13 ct13 : Value}
    {od14 an14 : Option Addr} {sl14 : Array (Option Value)} {oc14 kV14 dc14 pm14 cd14 ct14 : Value}
    {od15 an15 : Option Addr} {sl15 : Array (Option Value)} {oc15 kV15 dc15 pm15 cd15 ct15 : Value}
    {od16 an16 : Option Addr} {sl16 : Array (Option Value)} {oc16 kV16 dc16 pm16 cd16 ct16 : Value}
    {od17 an17 : Option Addr} {sl17 : Array (Option Value)} {oc17 kV17 dc17 pm17 cd17 ct17 : Value}
    {od18 an18 : Option Addr} {sl18 : Array (Option Value)} {oc18 kV18 dc18 pm18 cd18 ct18 : Value}
    {od19 an19 : Option Addr} {sl19 : Array (Option Value)} {oc19 kV19 dc19 pm19 cd19 ct19 : Value}
    {od20 an20 : Option Addr} {sl20 : Array (Option Value)} {oc20 kV20 dc20 pm20 cd20 ct20 : Value}
    {od21 an21 : Option Addr} {sl21 : Array (Option Value)} {oc21 kV21 dc21 pm21 cd21 ct21 : Value}
    {od22 an22 : Option Addr} {sl22 : Array (Option Value)} {oc22 kV22 dc22 pm22 cd22 ct22 : Value}
    {od23 an23 : Option Addr} {sl23 : Array (Option Value)} {oc23 kV23 dc23 pm23 cd23 ct23 : Value}
    {od24 an24 : Option Addr} {sl24 : Array (Option Value)} {oc24 kV24 dc24 pm24 cd24 ct24 : Value}
    {od25 an25 : Option Addr} {sl25 : Array (Option Value)} {oc25 kV25 dc25 pm25 cd25 ct25 : Value}
    {od26 an26 : Option Addr} {sl26 : Array (Option Value)} {oc26 kV26 dc26 pm26 cd26 ct26 : Value}
    {od27 an27 : Option Addr} {sl27 : Array (Option Value)} {oc27 dc27 pm27 cd27 ct27 : Value}
    {kD27 : Addr} {tk27_0 : Tok}
    {od28 an28 : Option Addr} {sl28 : Array (Option Value)} {oc28 kV28 dc28 pm28 cd28 ct28 : Value}
    {od29 an29 : Option Addr} {sl29 : Array (Option Value)} {oc29 kV29 dc29 pm29 cd29 ct29 : Value}
    {od30 an30 : Option Addr} {sl30 : Array (Option Value)} {oc30 kV30 dc30 pm30 cd30 ct30 : Value}
    {od31 an31 : Option Addr} {sl31 : Array (Option Value)} {oc31 kV31 dc31 pm31 cd31 ct31 : Value}
    {od32 an32 : Option Addr} {sl32 : Array (Option Value)} {oc32 kV32 dc32 pm32 cd32 ct32 : Value}
    {od33 an33 : Option Addr} {sl33 : Array (Option Value)} {oc33 kV33 dc33 pm33 cd33 ct33 : Value}
    {od34 an34 : Option Addr} {sl34 : Array (Option Value)} {oc34 kV34 dc34 pm34 cd34 ct34 : Value}
    {od35 an35 : Option Addr} {sl35 : Array (Option Value)} {oc35 kV35 dc35 pm35 cd35 ct35 : Value}
    {od36 an36 : Option Addr} {sl36 : Array (Option Value)} {oc36 kV36 dc36 pm36 cd36 ct36 : Value}
    {od37 an37 : Option Addr} {sl37 : Array (Option Value)} {oc37 kV37 dc37 pm37 cd37 ct37 : Value}
    {dT37 : Addr} {ot37 : Value} {odt37 : Option Addr} {nt37 : Nat} {slt37 : Array (Option Value)} {tk37_0 : Tok}
    {od38 an38 : Option Addr} {sl38 : Array (Option Value)} {oc38 kV38 dc38 pm38 cd38 ct38 : Value}
    {od39 an39 : Option Addr} {sl39 : Array (Option Value)} {oc39 kV39 dc39 pm39 cd39 ct39 : Value}
    {od40 an40 : Option Addr} {sl40 : Array (Option Value)} {oc40 kV40 dc40 pm40 cd40 ct40 : Value}
    {od41 an41 : Option Addr} {sl41 : Array (Option Value)} {oc41 kV41 dc41 pm41 cd41 ct41 : Value}
    {od42 an42 : Option Addr} {sl42 : Array (Option Value)} {oc42 kV42 dc42 pm42 cd42 ct42 : Value}
    {od43 an43 : Option Addr} {sl43 : Array (Option Value)} {oc43 kV43 dc43 pm43 cd43 ct43 : Value}
    {od44 an44 : Option Addr} {sl44 : Array (Option Value)} {oc44 kV44 dc44 pm44 cd44 ct44 : Value}
    {od45 an45 : Option Addr} {sl45 : Array (Option Value)} {oc45 kV45 dc45 pm45 cd45 ct45 : Value}
    {od46 an46 : Option Addr} {sl46 : Array (Option Value)} {oc46 kV46 dc46 pm46 cd46 ct46 : Value}
    {od47 an47 : Option Addr} {sl47 : Array (Option Value)} {oc47 dc47 pm47 cd47 ct47 : Value}
    {kD47 : Addr} {tk47_0 : Tok}
    {od48 an48 : Option Addr} {sl48 : Array (Option Value)} {oc48 kV48 dc48 pm48 cd48 ct48 : Value}
    {od49 an49 : Option Addr} {sl49 : Array (Option Value)} {oc49 dc49 pm49 cd49 ct49 : Value}
    {kD49 : Addr} {tk49_0 : Tok}
    {od50 an50 : Option Addr} {sl50 : Array (Option Value)} {oc50 kV50 dc50 pm50 cd50 ct50 : Value}
    {od51 an51 : Option Addr} {sl51 : Array (Option Value)} {oc51 kV51 dc51 pm51 cd51 ct51 : Value}
    {dT51 : Addr} {ot51 : Value} {odt51 : Option Addr} {nt51 : Nat} {slt51 : Array (Option Value)} {tk51_0 : Tok}
    {od52 an52 : Option Addr} {sl52 : Array (Option Value)} {oc52 kV52 dc52 pm52 cd52 ct52 : Value}
    {ca0 ci0 : Addr} {cod0 can0 : Option Addr} {csl0 : Array (Option Value)} {coc0 ckV0 cdc0 cpm0 ccd0 cct0 : Value}
    {cT0 : Addr} {cot0 : Value} {codt0 : Option Addr} {cnt0 : Nat} {cslt0 : Array (Option Value)} {ctk0_0 : Tok}
    {ca1 ci1 : Addr} {cod1 can1 : Option Addr} {csl1 : Array (Option Value)} {coc1 ckV1 cdc1 cpm1 ccd1 cct1 : Value}
    {ca2 ci2 : Addr} {cod2 can2 : Option Addr} {csl2 : Array (Option Value)} {coc2 ckV2 cdc2 cpm2 ccd2 cct2 : Value}
    {ca3 ci3 : Addr} {cod3 can3 : Option Addr} {csl3 : Array (Option Value)} {coc3 ckV3 cdc3 cpm3 ccd3 cct3 : Value}
    {ca4 ci4 : Addr} {cod4 can4 : Option Addr} {csl4 : Array (Option Value)} {coc4 ckV4 cdc4 cpm4 ccd4 cct4 : Value}
    {ca5 ci5 : Addr} {cod5 can5 : Option Addr} {csl5 : Array (Option Value)} {coc5 ckV5 cdc5 cpm5 ccd5 cct5 : Value}
    {ca6 ci6 : Addr} {cod6 can6 : Option Addr} {csl6 : Array (Option Value)} {coc6 ckV6 cdc6 cpm6 ccd6 cct6 : Value}
    {tkc0 : Tok}
    (a0 : PySem.W.nsIn K mainGlobals "_law_bag" = some (some (.ref f0))) (l0 : K.lookup f0 = some ⟨oc0, od0, .func (PySem.W.fnOf "_law_bag" "_law_bag" (defArgs s__law_bag) (defBody s__law_bag) (defScope s__law_bag) .none kV0 dc0 pm0 an0 cd0 ct0), sl0⟩) (c0 : PySem.W.codeIn K cd0 "_law_bag" = true) (k0 : PySem.W.keepIn K (.ref f0) = true)
    (a1 : PySem.W.nsIn K mainGlobals "_law_pull" = some (some (.ref f1))) (l1 : K.lookup f1 = some ⟨oc1, od1, .func (PySem.W.fnOf "_law_pull" "_law_pull" (defArgs s__law_pull) (defBody s__law_pull) (defScope s__law_pull) .none kV1 dc1 pm1 an1 cd1 ct1), sl1⟩) (c1 : PySem.W.codeIn K cd1 "_law_pull" = true) (k1 : PySem.W.keepIn K (.ref f1) = true)
    (a2 : PySem.W.nsIn K mainGlobals "_law_room" = some (some (.ref f2))) (l2 : K.lookup f2 = some ⟨oc2, od2, .func (PySem.W.fnOf "_law_room" "_law_room" (defArgs s__law_room) (defBody s__law_room) (defScope s__law_room) .none kV2 dc2 pm2 an2 cd2 ct2), sl2⟩) (c2 : PySem.W.codeIn K cd2 "_law_room" = true) (k2 : PySem.W.keepIn K (.ref f2) = true)
    (a3 : PySem.W.nsIn K mainGlobals "_law_gcd" = some (some (.ref f3))) (l3 : K.lookup f3 = some ⟨oc3, od3, .func (PySem.W.fnOf "_law_gcd" "_law_gcd" (defArgs s__law_gcd) (defBody s__law_gcd) (defScope s__law_gcd) .none kV3 dc3 pm3 an3 cd3 ct3), sl3⟩) (c3 : PySem.W.codeIn K cd3 "_law_gcd" = true) (k3 : PySem.W.keepIn K (.ref f3) = true)
    (a4 : PySem.W.nsIn K mainGlobals "_law_frac" = some (some (.ref f4))) (l4 : K.lookup f4 = some ⟨oc4, od4, .func (PySem.W.fnOf "_law_frac" "_law_frac" (defArgs s__law_frac) (defBody s__law_frac) (defScope s__law_frac) .none kV4 dc4 pm4 an4 cd4 ct4), sl4⟩) (c4 : PySem.W.codeIn K cd4 "_law_frac" = true) (k4 : PySem.W.keepIn K (.ref f4) = true)
    (a5 : PySem.W.nsIn K mainGlobals "_law_part" = some (some (.ref f5))) (l5 : K.lookup f5 = some ⟨oc5, od5, .func (PySem.W.fnOf "_law_part" "_law_part" (defArgs s__law_part) (defBody s__law_part) (defScope s__law_part) .none kV5 dc5 pm5 an5 cd5 ct5), sl5⟩) (c5 : PySem.W.codeIn K cd5 "_law_part" = true) (k5 : PySem.W.keepIn K (.ref f5) = true)
    (a6 : PySem.W.nsIn K mainGlobals "_law_spot" = some (some (.ref f6))) (l6 : K.lookup f6 = some ⟨oc6, od6, .func (PySem.W.fnOf "_law_spot" "_law_spot" (defArgs s__law_spot) (defBody s__law_spot) (defScope s__law_spot) .none kV6 dc6 pm6 an6 cd6 ct6), sl6⟩) (c6 : PySem.W.codeIn K cd6 "_law_spot" = true) (k6 : PySem.W.keepIn K (.ref f6) = true)
    (a7 : PySem.W.nsIn K mainGlobals "_law_sub" = some (some (.ref f7))) (l7 : K.lookup f7 = some ⟨oc7, od7, .func (PySem.W.fnOf "_law_sub" "_law_sub" (defArgs s__law_sub) (defBody s__law_sub) (defScope s__law_sub) .none kV7 dc7 pm7 an7 cd7 ct7), sl7⟩) (c7 : PySem.W.codeIn K cd7 "_law_sub" = true) (k7 : PySem.W.keepIn K (.ref f7) = true)
    (a8 : PySem.W.nsIn K mainGlobals "_law_add" = some (some (.ref f8))) (l8 : K.lookup f8 = some ⟨oc8, od8, .func (PySem.W.fnOf "_law_add" "_law_add" (defArgs s__law_add) (defBody s__law_add) (defScope s__law_add) .none kV8 dc8 pm8 an8 cd8 ct8), sl8⟩) (c8 : PySem.W.codeIn K cd8 "_law_add" = true) (k8 : PySem.W.keepIn K (.ref f8) = true)
    (a9 : PySem.W.nsIn K mainGlobals "_law_mul" = some (some (.ref f9))) (l9 : K.lookup f9 = some ⟨oc9, od9, .func (PySem.W.fnOf "_law_mul" "_law_mul" (defArgs s__law_mul) (defBody s__law_mul) (defScope s__law_mul) .none kV9 dc9 pm9 an9 cd9 ct9), sl9⟩) (c9 : PySem.W.codeIn K cd9 "_law_mul" = true) (k9 : PySem.W.keepIn K (.ref f9) = true)
    (a10 : PySem.W.nsIn K mainGlobals "_law_along" = some (some (.ref f10))) (l10 : K.lookup f10 = some ⟨oc10, od10, .func (PySem.W.fnOf "_law_along" "_law_along" (defArgs s__law_along) (defBody s__law_along) (defScope s__law_along) .none kV10 dc10 pm10 an10 cd10 ct10), sl10⟩) (c10 : PySem.W.codeIn K cd10 "_law_along" = true) (k10 : PySem.W.keepIn K (.ref f10) = true)
    (a11 : PySem.W.nsIn K mainGlobals "_law_spots" = some (some (.ref f11))) (l11 : K.lookup f11 = some ⟨oc11, od11, .func (PySem.W.fnOf "_law_spots" "_law_spots" (defArgs s__law_spots) (defBody s__law_spots) (defScope s__law_spots) .none kV11 dc11 pm11 an11 cd11 ct11), sl11⟩) (c11 : PySem.W.codeIn K cd11 "_law_spots" = true) (k11 : PySem.W.keepIn K (.ref f11) = true)
    (a12 : PySem.W.nsIn K mainGlobals "_law_rows" = some (some (.ref f12))) (l12 : K.lookup f12 = some ⟨oc12, od12, .func (PySem.W.fnOf "_law_rows" "_law_rows" (defArgs s__law_rows) (defBody s__law_rows) (defScope s__law_rows) .none kV12 dc12 pm12 an12 cd12 ct12), sl12⟩) (c12 : PySem.W.codeIn K cd12 "_law_rows" = true) (k12 : PySem.W.keepIn K (.ref f12) = true)
    (a13 : PySem.W.nsIn K mainGlobals "_law_below" = some (some (.ref f13))) (l13 : K.lookup f13 = some ⟨oc13, od13, .func (PySem.W.fnOf "_law_below" "_law_below" (defArgs s__law_below) (defBody s__law_below) (defScope s__law_below) .none kV13 dc13 pm13 an13 cd13 ct13), sl13⟩) (c13 : PySem.W.codeIn K cd13 "_law_below" = true) (k13 : PySem.W.keepIn K (.ref f13) = true)
    (a14 : PySem.W.nsIn K mainGlobals "_law_key" = some (some (.ref f14))) (l14 : K.lookup f14 = some ⟨oc14, od14, .func (PySem.W.fnOf "_law_key" "_law_key" (defArgs s__law_key) (defBody s__law_key) (defScope s__law_key) .none kV14 dc14 pm14 an14 cd14 ct14), sl14⟩) (c14 : PySem.W.codeIn K cd14 "_law_key" = true) (k14 : PySem.W.keepIn K (.ref f14) = true)
    (a15 : PySem.W.nsIn K mainGlobals "_law_rising" = some (some (.ref f15))) (l15 : K.lookup f15 = some ⟨oc15, od15, .func (PySem.W.fnOf "_law_rising" "_law_rising" (defArgs s__law_rising) (defBody s__law_rising) (defScope s__law_rising) .none kV15 dc15 pm15 an15 cd15 ct15), sl15⟩) (c15 : PySem.W.codeIn K cd15 "_law_rising" = true) (k15 : PySem.W.keepIn K (.ref f15) = true)
    (a16 : PySem.W.nsIn K mainGlobals "_law_sign" = some (some (.ref f16))) (l16 : K.lookup f16 = some ⟨oc16, od16, .func (PySem.W.fnOf "_law_sign" "_law_sign" (defArgs s__law_sign) (defBody s__law_sign) (defScope s__law_sign) .none kV16 dc16 pm16 an16 cd16 ct16), sl16⟩) (c16 : PySem.W.codeIn K cd16 "_law_sign" = true) (k16 : PySem.W.keepIn K (.ref f16) = true)
    (a17 : PySem.W.nsIn K mainGlobals "_law_det" = some (some (.ref f17))) (l17 : K.lookup f17 = some ⟨oc17, od17, .func (PySem.W.fnOf "_law_det" "_law_det" (defArgs s__law_det) (defBody s__law_det) (defScope s__law_det) .none kV17 dc17 pm17 an17 cd17 ct17), sl17⟩) (c17 : PySem.W.codeIn K cd17 "_law_det" = true) (k17 : PySem.W.keepIn K (.ref f17) = true)
    (a18 : PySem.W.nsIn K mainGlobals "_law_hom" = some (some (.ref f18))) (l18 : K.lookup f18 = some ⟨oc18, od18, .func (PySem.W.fnOf "_law_hom" "_law_hom" (defArgs s__law_hom) (defBody s__law_hom) (defScope s__law_hom) .none kV18 dc18 pm18 an18 cd18 ct18), sl18⟩) (c18 : PySem.W.codeIn K cd18 "_law_hom" = true) (k18 : PySem.W.keepIn K (.ref f18) = true)
    (a19 : PySem.W.nsIn K mainGlobals "_law_turn" = some (some (.ref f19))) (l19 : K.lookup f19 = some ⟨oc19, od19, .func (PySem.W.fnOf "_law_turn" "_law_turn" (defArgs s__law_turn) (defBody s__law_turn) (defScope s__law_turn) .none kV19 dc19 pm19 an19 cd19 ct19), sl19⟩) (c19 : PySem.W.codeIn K cd19 "_law_turn" = true) (k19 : PySem.W.keepIn K (.ref f19) = true)
    (a20 : PySem.W.nsIn K mainGlobals "_law_cmp" = some (some (.ref f20))) (l20 : K.lookup f20 = some ⟨oc20, od20, .func (PySem.W.fnOf "_law_cmp" "_law_cmp" (defArgs s__law_cmp) (defBody s__law_cmp) (defScope s__law_cmp) .none kV20 dc20 pm20 an20 cd20 ct20), sl20⟩) (c20 : PySem.W.codeIn K cd20 "_law_cmp" = true) (k20 : PySem.W.keepIn K (.ref f20) = true)
    (a21 : PySem.W.nsIn K mainGlobals "_law_between" = some (some (.ref f21))) (l21 : K.lookup f21 = some ⟨oc21, od21, .func (PySem.W.fnOf "_law_between" "_law_between" (defArgs s__law_between) (defBody s__law_between) (defScope s__law_between) .none kV21 dc21 pm21 an21 cd21 ct21), sl21⟩) (c21 : PySem.W.codeIn K cd21 "_law_between" = true) (k21 : PySem.W.keepIn K (.ref f21) = true)
    (a22 : PySem.W.nsIn K mainGlobals "_law_next" = some (some (.ref f22))) (l22 : K.lookup f22 = some ⟨oc22, od22, .func (PySem.W.fnOf "_law_next" "_law_next" (defArgs s__law_next) (defBody s__law_next) (defScope s__law_next) .none kV22 dc22 pm22 an22 cd22 ct22), sl22⟩) (c22 : PySem.W.codeIn K cd22 "_law_next" = true) (k22 : PySem.W.keepIn K (.ref f22) = true)
    (a23 : PySem.W.nsIn K mainGlobals "_law_body" = some (some (.ref f23))) (l23 : K.lookup f23 = some ⟨oc23, od23, .func (PySem.W.fnOf "_law_body" "_law_body" (defArgs s__law_body) (defBody s__law_body) (defScope s__law_body) .none kV23 dc23 pm23 an23 cd23 ct23), sl23⟩) (c23 : PySem.W.codeIn K cd23 "_law_body" = true) (k23 : PySem.W.keepIn K (.ref f23) = true)
    (a24 : PySem.W.nsIn K mainGlobals "_law_lot" = some (some (.ref f24))) (l24 : K.lookup f24 = some ⟨oc24, od24, .func (PySem.W.fnOf "_law_lot" "_law_lot" (defArgs s__law_lot) (defBody s__law_lot) (defScope s__law_lot) .none kV24 dc24 pm24 an24 cd24 ct24), sl24⟩) (c24 : PySem.W.codeIn K cd24 "_law_lot" = true) (k24 : PySem.W.keepIn K (.ref f24) = true)
    (a25 : PySem.W.nsIn K mainGlobals "_law_like" = some (some (.ref f25))) (l25 : K.lookup f25 = some ⟨oc25, od25, .func (PySem.W.fnOf "_law_like" "_law_like" (defArgs s__law_like) (defBody s__law_like) (defScope s__law_like) .none kV25 dc25 pm25 an25 cd25 ct25), sl25⟩) (c25 : PySem.W.codeIn K cd25 "_law_like" = true) (k25 : PySem.W.keepIn K (.ref f25) = true)
    (a26 : PySem.W.nsIn K mainGlobals "_law_bent" = some (some (.ref f26))) (l26 : K.lookup f26 = some ⟨oc26, od26, .func (PySem.W.fnOf "_law_bent" "_law_bent" (defArgs s__law_bent) (defBody s__law_bent) (defScope s__law_bent) .none kV26 dc26 pm26 an26 cd26 ct26), sl26⟩) (c26 : PySem.W.codeIn K cd26 "_law_bent" = true) (k26 : PySem.W.keepIn K (.ref f26) = true)
    (a27 : PySem.W.nsIn K mainGlobals "is_small" = some (some (.ref f27))) (l27 : K.lookup f27 = some ⟨oc27, od27, .func (PySem.W.fnOf "is_small" "is_small" (defArgs s_is_small) (defBody s_is_small) (defScope s_is_small) .none (.ref kD27) dc27 pm27 an27 cd27 ct27), sl27⟩) (c27 : PySem.W.codeIn K cd27 "is_small" = true) (k27 : PySem.W.keepIn K (.ref f27) = true)
    (t27_0 : PySem.W.nsIn K kD27 "limit" = some (some (Value.int 1000000000000000000 tk27_0)))
    (a28 : PySem.W.nsIn K mainGlobals "bounded" = some (some (.ref f28))) (l28 : K.lookup f28 = some ⟨oc28, od28, .func (PySem.W.fnOf "bounded" "bounded" (defArgs s_bounded) (defBody s_bounded) (defScope s_bounded) .none kV28 dc28 pm28 an28 cd28 ct28), sl28⟩) (c28 : PySem.W.codeIn K cd28 "bounded" = true) (k28 : PySem.W.keepIn K (.ref f28) = true)
    (a29 : PySem.W.nsIn K mainGlobals "shared" = some (some (.ref f29))) (l29 : K.lookup f29 = some ⟨oc29, od29, .func (PySem.W.fnOf "shared" "shared" (defArgs s_shared) (defBody s_shared) (defScope s_shared) .none kV29 dc29 pm29 an29 cd29 ct29), sl29⟩) (c29 : PySem.W.codeIn K cd29 "shared" = true) (k29 : PySem.W.keepIn K (.ref f29) = true)
    (a30 : PySem.W.nsIn K mainGlobals "common_below" = some (some (.ref f30))) (l30 : K.lookup f30 = some ⟨oc30, od30, .func (PySem.W.fnOf "common_below" "common_below" (defArgs s_common_below) (defBody s_common_below) (defScope s_common_below) .none kV30 dc30 pm30 an30 cd30 ct30), sl30⟩) (c30 : PySem.W.codeIn K cd30 "common_below" = true) (k30 : PySem.W.keepIn K (.ref f30) = true)
    (a31 : PySem.W.nsIn K mainGlobals "whole_row" = some (some (.ref f31))) (l31 : K.lookup f31 = some ⟨oc31, od31, .func (PySem.W.fnOf "whole_row" "whole_row" (defArgs s_whole_row) (defBody s_whole_row) (defScope s_whole_row) .none kV31 dc31 pm31 an31 cd31 ct31), sl31⟩) (c31 : PySem.W.codeIn K cd31 "whole_row" = true) (k31 : PySem.W.keepIn K (.ref f31) = true)
    (a32 : PySem.W.nsIn K mainGlobals "in_order" = some (some (.ref f32))) (l32 : K.lookup f32 = some ⟨oc32, od32, .func (PySem.W.fnOf "in_order" "in_order" (defArgs s_in_order) (defBody s_in_order) (defScope s_in_order) .none kV32 dc32 pm32 an32 cd32 ct32), sl32⟩) (c32 : PySem.W.codeIn K cd32 "in_order" = true) (k32 : PySem.W.keepIn K (.ref f32) = true)
    (a33 : PySem.W.nsIn K mainGlobals "gathered" = some (some (.ref f33))) (l33 : K.lookup f33 = some ⟨oc33, od33, .func (PySem.W.fnOf "gathered" "gathered" (defArgs s_gathered) (defBody s_gathered) (defScope s_gathered) .none kV33 dc33 pm33 an33 cd33 ct33), sl33⟩) (c33 : PySem.W.codeIn K cd33 "gathered" = true) (k33 : PySem.W.keepIn K (.ref f33) = true)
    (a34 : PySem.W.nsIn K mainGlobals "settled_lot" = some (some (.ref f34))) (l34 : K.lookup f34 = some ⟨oc34, od34, .func (PySem.W.fnOf "settled_lot" "settled_lot" (defArgs s_settled_lot) (defBody s_settled_lot) (defScope s_settled_lot) .none kV34 dc34 pm34 an34 cd34 ct34), sl34⟩) (c34 : PySem.W.codeIn K cd34 "settled_lot" = true) (k34 : PySem.W.keepIn K (.ref f34) = true)
    (a35 : PySem.W.nsIn K mainGlobals "rising" = some (some (.ref f35))) (l35 : K.lookup f35 = some ⟨oc35, od35, .func (PySem.W.fnOf "rising" "rising" (defArgs s_rising) (defBody s_rising) (defScope s_rising) .none kV35 dc35 pm35 an35 cd35 ct35), sl35⟩) (c35 : PySem.W.codeIn K cd35 "rising" = true) (k35 : PySem.W.keepIn K (.ref f35) = true)
    (a36 : PySem.W.nsIn K mainGlobals "order" = some (some (.ref f36))) (l36 : K.lookup f36 = some ⟨oc36, od36, .func (PySem.W.fnOf "order" "order" (defArgs s_order) (defBody s_order) (defScope s_order) .none kV36 dc36 pm36 an36 cd36 ct36), sl36⟩) (c36 : PySem.W.codeIn K cd36 "order" = true) (k36 : PySem.W.keepIn K (.ref f36) = true)
    (a37 : PySem.W.nsIn K mainGlobals "part" = some (some (.ref f37))) (l37 : K.lookup f37 = some ⟨oc37, od37, .func (PySem.W.fnOf "part" "part" (defArgs s_part) (defBody s_part) (defScope s_part) (.ref dT37) kV37 dc37 pm37 an37 cd37 ct37), sl37⟩) (c37 : PySem.W.codeIn K cd37 "part" = true) (k37 : PySem.W.keepIn K (.ref f37) = true)
    (t37 : K.lookup dT37 = some ⟨ot37, odt37, .seq [Value.int 1 tk37_0].toArray nt37, slt37⟩)
    (a38 : PySem.W.nsIn K mainGlobals "minus" = some (some (.ref f38))) (l38 : K.lookup f38 = some ⟨oc38, od38, .func (PySem.W.fnOf "minus" "minus" (defArgs s_minus) (defBody s_minus) (defScope s_minus) .none kV38 dc38 pm38 an38 cd38 ct38), sl38⟩) (c38 : PySem.W.codeIn K cd38 "minus" = true) (k38 : PySem.W.keepIn K (.ref f38) = true)
    (a39 : PySem.W.nsIn K mainGlobals "times" = some (some (.ref f39))) (l39 : K.lookup f39 = some ⟨oc39, od39, .func (PySem.W.fnOf "times" "times" (defArgs s_times) (defBody s_times) (defScope s_times) .none kV39 dc39 pm39 an39 cd39 ct39), sl39⟩) (c39 : PySem.W.codeIn K cd39 "times" = true) (k39 : PySem.W.keepIn K (.ref f39) = true)
    (a40 : PySem.W.nsIn K mainGlobals "across" = some (some (.ref f40))) (l40 : K.lookup f40 = some ⟨oc40, od40, .func (PySem.W.fnOf "across" "across" (defArgs s_across) (defBody s_across) (defScope s_across) .none kV40 dc40 pm40 an40 cd40 ct40), sl40⟩) (c40 : PySem.W.codeIn K cd40 "across" = true) (k40 : PySem.W.keepIn K (.ref f40) = true)
    (a41 : PySem.W.nsIn K mainGlobals "step_from" = some (some (.ref f41))) (l41 : K.lookup f41 = some ⟨oc41, od41, .func (PySem.W.fnOf "step_from" "step_from" (defArgs s_step_from) (defBody s_step_from) (defScope s_step_from) .none kV41 dc41 pm41 an41 cd41 ct41), sl41⟩) (c41 : PySem.W.codeIn K cd41 "step_from" = true) (k41 : PySem.W.keepIn K (.ref f41) = true)
    (a42 : PySem.W.nsIn K mainGlobals "side_of" = some (some (.ref f42))) (l42 : K.lookup f42 = some ⟨oc42, od42, .func (PySem.W.fnOf "side_of" "side_of" (defArgs s_side_of) (defBody s_side_of) (defScope s_side_of) .none kV42 dc42 pm42 an42 cd42 ct42), sl42⟩) (c42 : PySem.W.codeIn K cd42 "side_of" = true) (k42 : PySem.W.keepIn K (.ref f42) = true)
    (a43 : PySem.W.nsIn K mainGlobals "hull_side" = some (some (.ref f43))) (l43 : K.lookup f43 = some ⟨oc43, od43, .func (PySem.W.fnOf "hull_side" "hull_side" (defArgs s_hull_side) (defBody s_hull_side) (defScope s_hull_side) .none kV43 dc43 pm43 an43 cd43 ct43), sl43⟩) (c43 : PySem.W.codeIn K cd43 "hull_side" = true) (k43 : PySem.W.keepIn K (.ref f43) = true)
    (a44 : PySem.W.nsIn K mainGlobals "corners_round" = some (some (.ref f44))) (l44 : K.lookup f44 = some ⟨oc44, od44, .func (PySem.W.fnOf "corners_round" "corners_round" (defArgs s_corners_round) (defBody s_corners_round) (defScope s_corners_round) .none kV44 dc44 pm44 an44 cd44 ct44), sl44⟩) (c44 : PySem.W.codeIn K cd44 "corners_round" = true) (k44 : PySem.W.keepIn K (.ref f44) = true)
    (a45 : PySem.W.nsIn K mainGlobals "is_whole" = some (some (.ref f45))) (l45 : K.lookup f45 = some ⟨oc45, od45, .func (PySem.W.fnOf "is_whole" "is_whole" (defArgs s_is_whole) (defBody s_is_whole) (defScope s_is_whole) .none kV45 dc45 pm45 an45 cd45 ct45), sl45⟩) (c45 : PySem.W.codeIn K cd45 "is_whole" = true) (k45 : PySem.W.keepIn K (.ref f45) = true)
    (a46 : PySem.W.nsIn K mainGlobals "is_part" = some (some (.ref f46))) (l46 : K.lookup f46 = some ⟨oc46, od46, .func (PySem.W.fnOf "is_part" "is_part" (defArgs s_is_part) (defBody s_is_part) (defScope s_is_part) .none kV46 dc46 pm46 an46 cd46 ct46), sl46⟩) (c46 : PySem.W.codeIn K cd46 "is_part" = true) (k46 : PySem.W.keepIn K (.ref f46) = true)
    (a47 : PySem.W.nsIn K mainGlobals "is_spot" = some (some (.ref f47))) (l47 : K.lookup f47 = some ⟨oc47, od47, .func (PySem.W.fnOf "is_spot" "is_spot" (defArgs s_is_spot) (defBody s_is_spot) (defScope s_is_spot) .none (.ref kD47) dc47 pm47 an47 cd47 ct47), sl47⟩) (c47 : PySem.W.codeIn K cd47 "is_spot" = true) (k47 : PySem.W.keepIn K (.ref f47) = true)
    (t47_0 : PySem.W.nsIn K kD47 "room" = some (some (Value.int 2 tk47_0)))
    (a48 : PySem.W.nsIn K mainGlobals "body_of" = some (some (.ref f48))) (l48 : K.lookup f48 = some ⟨oc48, od48, .func (PySem.W.fnOf "body_of" "body_of" (defArgs s_body_of) (defBody s_body_of) (defScope s_body_of) .none kV48 dc48 pm48 an48 cd48 ct48), sl48⟩) (c48 : PySem.W.codeIn K cd48 "body_of" = true) (k48 : PySem.W.keepIn K (.ref f48) = true)
    (a49 : PySem.W.nsIn K mainGlobals "lot_of" = some (some (.ref f49))) (l49 : K.lookup f49 = some ⟨oc49, od49, .func (PySem.W.fnOf "lot_of" "lot_of" (defArgs s_lot_of) (defBody s_lot_of) (defScope s_lot_of) .none (.ref kD49) dc49 pm49 an49 cd49 ct49), sl49⟩) (c49 : PySem.W.codeIn K cd49 "lot_of" = true) (k49 : PySem.W.keepIn K (.ref f49) = true)
    (t49_0 : PySem.W.nsIn K kD49 "room" = some (some (Value.int 2 tk49_0)))
    (a50 : PySem.W.nsIn K mainGlobals "_law_told" = some (some (.ref f50))) (l50 : K.lookup f50 = some ⟨oc50, od50, .func (PySem.W.fnOf "_law_told" "_law_told" (defArgs s__law_told) (defBody s__law_told) (defScope s__law_told) .none kV50 dc50 pm50 an50 cd50 ct50), sl50⟩) (c50 : PySem.W.codeIn K cd50 "_law_told" = true) (k50 : PySem.W.keepIn K (.ref f50) = true)
    (a51 : PySem.W.nsIn K mainGlobals "nothing" = some (some (.ref f51))) (l51 : K.lookup f51 = some ⟨oc51, od51, .func (PySem.W.fnOf "nothing" "nothing" (defArgs s_nothing) (defBody s_nothing) (defScope s_nothing) (.ref dT51) kV51 dc51 pm51 an51 cd51 ct51), sl51⟩) (c51 : PySem.W.codeIn K cd51 "nothing" = true) (k51 : PySem.W.keepIn K (.ref f51) = true)
    (t51 : K.lookup dT51 = some ⟨ot51, odt51, .seq [Value.int 2 tk51_0].toArray nt51, slt51⟩)
    (a52 : PySem.W.nsIn K mainGlobals "law" = some (some (.ref f52))) (l52 : K.lookup f52 = some ⟨oc52, od52, .func (PySem.W.fnOf "law" "law" (defArgs s_law) (defBody s_law) (defScope s_law) .none kV52 dc52 pm52 an52 cd52 ct52), sl52⟩) (c52 : PySem.W.codeIn K cd52 "law" = true) (k52 : PySem.W.keepIn K (.ref f52) = true)
    (y0g : PySem.W.nsIn K mainGlobals "Unfit" = some (some (.ref ca0)))
    (y0o : PySem.W.excOver K ca0 [.type "ValueError", .type "Exception", .type "BaseException", .type "object"] = true)
    (y0m : PySem.W.excInitIn K ca0 [.type "ValueError", .type "Exception", .type "BaseException", .type "object"] "ValueError.__new__" = true)
    (y0h : PySem.W.hasDictIn K ca0 = true)
    (y0s : PySem.W.findIn K (.ref ca0) "__setattr__" = some (some (.builtin "object.__setattr__")))
    (y0x : PySem.W.subIn K (.ref ca0) (.type "BaseException") = some true)
    (y0t : PySem.W.typeIn K (.ref ca0) = some (.type "type"))
    (y0k : PySem.W.keepIn K (.ref ca0) = true)
    (y0i : PySem.W.findIn K (.ref ca0) "__init__" = some (some (.ref ci0)))
    (y0f : PySem.W.typeIn K (.ref ci0) = some (.type "function"))
    (y0l : K.lookup ci0 = some ⟨coc0, cod0, .func (PySem.W.fnOf "__init__" "Unfit.__init__" (defArgs si_Unfit) (defBody si_Unfit) (defScope si_Unfit) (.ref cT0) ckV0 cdc0 cpm0 can0 ccd0 cct0), csl0⟩)
    (y0c : PySem.W.codeIn K ccd0 "Unfit.__init__" = true)
    (y0p : PySem.W.keepIn K (.ref ci0) = true)
    (y0a : PySem.W.findIn K (.ref ca0) "__getattribute__" = some (some (.builtin "BaseException.__getattribute__")))
    (y0b : PySem.W.findIn K (.ref ca0) "__getattr__" = some none)
    (y0n_word : PySem.W.findIn K (.ref ca0) "word" = some none)
    (y0r : PySem.W.readsIn K ca0 (.type "type") = true)
    (y0q : PySem.W.specialIn K (.ref ca0) "__getattribute__" = some (some (.builtin "type.__getattribute__")))
    (y0v : PySem.W.findCls K (.ref ca0) (.type "type") "__init__" = some (.val (.ref ci0)))
    (y0d : K.lookup cT0 = some ⟨cot0, codt0, .seq [Value.str "Unfit" ctk0_0].toArray cnt0, cslt0⟩)
    (y1g : PySem.W.nsIn K mainGlobals "OtherRoom" = some (some (.ref ca1)))
    (y1o : PySem.W.excOver K ca1 [.type "ValueError", .type "Exception", .type "BaseException", .type "object"] = true)
    (y1m : PySem.W.excInitIn K ca1 [.type "ValueError", .type "Exception", .type "BaseException", .type "object"] "ValueError.__new__" = true)
    (y1h : PySem.W.hasDictIn K ca1 = true)
    (y1s : PySem.W.findIn K (.ref ca1) "__setattr__" = some (some (.builtin "object.__setattr__")))
    (y1x : PySem.W.subIn K (.ref ca1) (.type "BaseException") = some true)
    (y1t : PySem.W.typeIn K (.ref ca1) = some (.type "type"))
    (y1k : PySem.W.keepIn K (.ref ca1) = true)
    (y1i : PySem.W.findIn K (.ref ca1) "__init__" = some (some (.ref ci1)))
    (y1f : PySem.W.typeIn K (.ref ci1) = some (.type "function"))
    (y1l : K.lookup ci1 = some ⟨coc1, cod1, .func (PySem.W.fnOf "__init__" "OtherRoom.__init__" (defArgs si_OtherRoom) (defBody si_OtherRoom) (defScope si_OtherRoom) .none ckV1 cdc1 cpm1 can1 ccd1 cct1), csl1⟩)
    (y1c : PySem.W.codeIn K ccd1 "OtherRoom.__init__" = true)
    (y1p : PySem.W.keepIn K (.ref ci1) = true)
    (y1a : PySem.W.findIn K (.ref ca1) "__getattribute__" = some (some (.builtin "BaseException.__getattribute__")))
    (y1b : PySem.W.findIn K (.ref ca1) "__getattr__" = some none)
    (y1n_word : PySem.W.findIn K (.ref ca1) "word" = some none)
    (y2g : PySem.W.nsIn K mainGlobals "BadLot" = some (some (.ref ca2)))
    (y2o : PySem.W.excOver K ca2 [.type "ValueError", .type "Exception", .type "BaseException", .type "object"] = true)
    (y2m : PySem.W.excInitIn K ca2 [.type "ValueError", .type "Exception", .type "BaseException", .type "object"] "ValueError.__new__" = true)
    (y2h : PySem.W.hasDictIn K ca2 = true)
    (y2s : PySem.W.findIn K (.ref ca2) "__setattr__" = some (some (.builtin "object.__setattr__")))
    (y2x : PySem.W.subIn K (.ref ca2) (.type "BaseException") = some true)
    (y2t : PySem.W.typeIn K (.ref ca2) = some (.type "type"))
    (y2k : PySem.W.keepIn K (.ref ca2) = true)
    (y2i : PySem.W.findIn K (.ref ca2) "__init__" = some (some (.ref ci2)))
    (y2f : PySem.W.typeIn K (.ref ci2) = some (.type "function"))
    (y2l : K.lookup ci2 = some ⟨coc2, cod2, .func (PySem.W.fnOf "__init__" "BadLot.__init__" (defArgs si_BadLot) (defBody si_BadLot) (defScope si_BadLot) .none ckV2 cdc2 cpm2 can2 ccd2 cct2), csl2⟩)
    (y2c : PySem.W.codeIn K ccd2 "BadLot.__init__" = true)
    (y2p : PySem.W.keepIn K (.ref ci2) = true)
    (y2a : PySem.W.findIn K (.ref ca2) "__getattribute__" = some (some (.builtin "BaseException.__getattribute__")))
    (y2b : PySem.W.findIn K (.ref ca2) "__getattr__" = some none)
    (y2n_word : PySem.W.findIn K (.ref ca2) "word" = some none)
    (y3g : PySem.W.nsIn K mainGlobals "BadSpot" = some (some (.ref ca3)))
    (y3o : PySem.W.excOver K ca3 [.type "ValueError", .type "Exception", .type "BaseException", .type "object"] = true)
    (y3m : PySem.W.excInitIn K ca3 [.type "ValueError", .type "Exception", .type "BaseException", .type "object"] "ValueError.__new__" = true)
    (y3h : PySem.W.hasDictIn K ca3 = true)
    (y3s : PySem.W.findIn K (.ref ca3) "__setattr__" = some (some (.builtin "object.__setattr__")))
    (y3x : PySem.W.subIn K (.ref ca3) (.type "BaseException") = some true)
    (y3t : PySem.W.typeIn K (.ref ca3) = some (.type "type"))
    (y3k : PySem.W.keepIn K (.ref ca3) = true)
    (y3i : PySem.W.findIn K (.ref ca3) "__init__" = some (some (.ref ci3)))
    (y3f : PySem.W.typeIn K (.ref ci3) = some (.type "function"))
    (y3l : K.lookup ci3 = some ⟨coc3, cod3, .func (PySem.W.fnOf "__init__" "BadSpot.__init__" (defArgs si_BadSpot) (defBody si_BadSpot) (defScope si_BadSpot) .none ckV3 cdc3 cpm3 can3 ccd3 cct3), csl3⟩)
    (y3c : PySem.W.codeIn K ccd3 "BadSpot.__init__" = true)
    (y3p : PySem.W.keepIn K (.ref ci3) = true)
    (y3a : PySem.W.findIn K (.ref ca3) "__getattribute__" = some (some (.builtin "BaseException.__getattribute__")))
    (y3b : PySem.W.findIn K (.ref ca3) "__getattr__" = some none)
    (y3n_word : PySem.W.findIn K (.ref ca3) "word" = some none)
    (y4g : PySem.W.nsIn K mainGlobals "TooMany" = some (some (.ref ca4)))
    (y4o : PySem.W.excOver K ca4 [.type "ValueError", .type "Exception", .type "BaseException", .type "object"] = true)
    (y4m : PySem.W.excInitIn K ca4 [.type "ValueError", .type "Exception", .type "BaseException", .type "object"] "ValueError.__new__" = true)
    (y4h : PySem.W.hasDictIn K ca4 = true)
    (y4s : PySem.W.findIn K (.ref ca4) "__setattr__" = some (some (.builtin "object.__setattr__")))
    (y4x : PySem.W.subIn K (.ref ca4) (.type "BaseException") = some true)
    (y4t : PySem.W.typeIn K (.ref ca4) = some (.type "type"))
    (y4k : PySem.W.keepIn K (.ref ca4) = true)
    (y4i : PySem.W.findIn K (.ref ca4) "__init__" = some (some (.ref ci4)))
    (y4f : PySem.W.typeIn K (.ref ci4) = some (.type "function"))
    (y4l : K.lookup ci4 = some ⟨coc4, cod4, .func (PySem.W.fnOf "__init__" "TooMany.__init__" (defArgs si_TooMany) (defBody si_TooMany) (defScope si_TooMany) .none ckV4 cdc4 cpm4 can4 ccd4 cct4), csl4⟩)
    (y4c : PySem.W.codeIn K ccd4 "TooMany.__init__" = true)
    (y4p : PySem.W.keepIn K (.ref ci4) = true)
    (y4a : PySem.W.findIn K (.ref ca4) "__getattribute__" = some (some (.builtin "BaseException.__getattribute__")))
    (y4b : PySem.W.findIn K (.ref ca4) "__getattr__" = some none)
    (y4n_word : PySem.W.findIn K (.ref ca4) "word" = some none)
    (y5g : PySem.W.nsIn K mainGlobals "TooGreat" = some (some (.ref ca5)))
    (y5o : PySem.W.excOver K ca5 [.type "ValueError", .type "Exception", .type "BaseException", .type "object"] = true)
    (y5m : PySem.W.excInitIn K ca5 [.type "ValueError", .type "Exception", .type "BaseException", .type "object"] "ValueError.__new__" = true)
    (y5h : PySem.W.hasDictIn K ca5 = true)
    (y5s : PySem.W.findIn K (.ref ca5) "__setattr__" = some (some (.builtin "object.__setattr__")))
    (y5x : PySem.W.subIn K (.ref ca5) (.type "BaseException") = some true)
    (y5t : PySem.W.typeIn K (.ref ca5) = some (.type "type"))
    (y5k : PySem.W.keepIn K (.ref ca5) = true)
    (y5i : PySem.W.findIn K (.ref ca5) "__init__" = some (some (.ref ci5)))
    (y5f : PySem.W.typeIn K (.ref ci5) = some (.type "function"))
    (y5l : K.lookup ci5 = some ⟨coc5, cod5, .func (PySem.W.fnOf "__init__" "TooGreat.__init__" (defArgs si_TooGreat) (defBody si_TooGreat) (defScope si_TooGreat) .none ckV5 cdc5 cpm5 can5 ccd5 cct5), csl5⟩)
    (y5c : PySem.W.codeIn K ccd5 "TooGreat.__init__" = true)
    (y5p : PySem.W.keepIn K (.ref ci5) = true)
    (y5a : PySem.W.findIn K (.ref ca5) "__getattribute__" = some (some (.builtin "BaseException.__getattribute__")))
    (y5b : PySem.W.findIn K (.ref ca5) "__getattr__" = some none)
    (y5n_word : PySem.W.findIn K (.ref ca5) "word" = some none)
    (y6g : PySem.W.nsIn K mainGlobals "Flat" = some (some (.ref ca6)))
    (y6o : PySem.W.excOver K ca6 [.type "ZeroDivisionError", .type "ArithmeticError", .type "Exception", .type "BaseException", .type "object"] = true)
    (y6m : PySem.W.excInitIn K ca6 [.type "ZeroDivisionError", .type "ArithmeticError", .type "Exception", .type "BaseException", .type "object"] "ZeroDivisionError.__new__" = true)
    (y6h : PySem.W.hasDictIn K ca6 = true)
    (y6s : PySem.W.findIn K (.ref ca6) "__setattr__" = some (some (.builtin "object.__setattr__")))
    (y6x : PySem.W.subIn K (.ref ca6) (.type "BaseException") = some true)
    (y6t : PySem.W.typeIn K (.ref ca6) = some (.type "type"))
    (y6k : PySem.W.keepIn K (.ref ca6) = true)
    (y6i : PySem.W.findIn K (.ref ca6) "__init__" = some (some (.ref ci6)))
    (y6f : PySem.W.typeIn K (.ref ci6) = some (.type "function"))
    (y6l : K.lookup ci6 = some ⟨coc6, cod6, .func (PySem.W.fnOf "__init__" "Flat.__init__" (defArgs si_Flat) (defBody si_Flat) (defScope si_Flat) .none ckV6 cdc6 cpm6 can6 ccd6 cct6), csl6⟩)
    (y6c : PySem.W.codeIn K ccd6 "Flat.__init__" = true)
    (y6p : PySem.W.keepIn K (.ref ci6) = true)
    (y6a : PySem.W.findIn K (.ref ca6) "__getattribute__" = some (some (.builtin "BaseException.__getattribute__")))
    (y6b : PySem.W.findIn K (.ref ca6) "__getattr__" = some none)
    (y6n_word : PySem.W.findIn K (.ref ca6) "word" = some none)
    (e0 : PySem.W.subIn K (.ref ca2) (.ref ca2) = some true)
    (e1 : PySem.W.subIn K (.ref ca2) (.ref ca1) = some false)
    (e2 : PySem.W.subIn K (.ref ca3) (.ref ca2) = some false)
    (e3 : PySem.W.subIn K (.ref ca3) (.ref ca3) = some true)
    (e4 : PySem.W.subIn K (.ref ca3) (.ref ca1) = some false)
    (e5 : PySem.W.subIn K (.ref ca1) (.ref ca1) = some true)
    (z0 : PySem.W.nsIn K mainGlobals "abs" = some none)
    (z1 : PySem.W.nsIn K mainGlobals "all" = some none)
    (z2 : PySem.W.nsIn K mainGlobals "any" = some none)
    (z3 : PySem.W.nsIn K mainGlobals "bool" = some none)
    (z4 : PySem.W.nsIn K mainGlobals "int" = some none)
    (z5 : PySem.W.nsIn K mainGlobals "isinstance" = some none)
    (z6 : PySem.W.nsIn K mainGlobals "len" = some none)
    (z7 : PySem.W.nsIn K mainGlobals "list" = some none)
    (z8 : PySem.W.nsIn K mainGlobals "max" = some none)
    (z9 : PySem.W.nsIn K mainGlobals "range" = some none)
    (z10 : PySem.W.nsIn K mainGlobals "sorted" = some none)
    (z11 : PySem.W.nsIn K mainGlobals "str" = some none)
    (z12 : PySem.W.nsIn K mainGlobals "tuple" = some none)
    (z13 : PySem.W.nsIn K mainGlobals "zip" = some none)
    (kc0 : PySem.W.nsIn K mainGlobals "MOST" = some (some (Value.int 2000 tkc0)))
    : ∃ fd : FuncData, (∀ (s : Shared) (v : Value), BindsTo s fd ⟨[v], []⟩ [("_law_script", v)]) ∧ ∀ base : Heap, K.In base → base.Ns mainGlobals mg → FnOk l.prog w K mg base CX0 12 fa fd ["_law_script"] (spP K PLaw) := qt_of (by simp (disch := with_unfolding_all
  have e := hfa.symm.trans (PySem.W.mg_of X G a52)
  cases e
  obtain ⟨cs, hc0, hc1, hc2, hc3, hc4, hc5, hc6⟩ : ∃ cs : Cs, cs "Unfit" = ca0 ∧ cs "OtherRoom" = ca1 ∧ cs "BadLot" = ca2 ∧ cs "BadSpot" = ca3 ∧ cs "TooMany" = ca4 ∧ cs "TooGreat" = ca5 ∧ cs "Flat" = ca6 := ⟨fun x => if x = "Unfit" then ca0 else if x = "OtherRoom" then ca1 else if x = "BadLot" then ca2 else if x = "BadSpot" then ca3 else if x = "TooMany" then ca4 else if x = "TooGreat" then ca5 else if x = "Flat" then ca6 else 0, by dsimp only; rw [if_pos rfl], by dsimp only; rw [if_neg (by decide), if_pos rfl], by dsimp only; rw [if_neg (by decide), if_neg (by decide), if_pos rfl], by dsimp only; rw [if_neg (by decide), if_neg (by decide), if_neg (by decide), if_pos rfl], by dsimp only; rw [if_neg (by decide), if_neg (by decide), if_neg (by decide), if_neg (by decide), if_pos rfl], by dsimp only; rw [if_neg (by decide), if_neg (by decide), if_neg (by decide), if_neg (by decide), if_neg (by decide), if_pos rfl], by dsimp only; rw [if_neg (by decide), if_neg (by decide), if_neg (by decide), if_neg (by decide), if_neg (by decide), if_neg (by decide), if_pos rfl]⟩
  subst hc0
  subst hc1
  subst hc2
  subst hc3
  subst hc4
  subst hc5
  subst hc6
  have FI0 := fund_mk (st := si_Unfit) (dvs := [V.str "Unfit"]) y0l y0c y0p y0d (.cons ⟨_, rfl⟩ .nil) (by simp)
  have ox0 : OxK K (cs "Unfit") := ⟨⟨_, _, _, _, PySem.F.excBase_ValueError, PySem.F.store_ValueError, y0o, y0m, y0h, y0s, y0x, y0t, y0k⟩⟩
  have bi0 := binds_all (ps := ["self", "word"]) FI0 (by simp) fun _ _ _ _ _ _ _ us its hl hl2 => match us, its, hl, hl2 with | [_, _], [_], _, _ => ⟨_, rfl, rfl⟩
  have cf0 : ClsF K cs "Unfit" ["word"] := ⟨ox0, fun n hn => by rw [List.mem_singleton.mp hn]; exact y0n_word⟩
  have FI1 := fun_mk (st := si_OtherRoom) y1l y1c y1p
  have ox1 : OxK K (cs "OtherRoom") := ⟨⟨_, _, _, _, PySem.F.excBase_ValueError, PySem.F.store_ValueError, y1o, y1m, y1h, y1s, y1x, y1t, y1k⟩⟩
  have bi1 := FI1.binds (ps := ["self"]) fun _ _ _ _ _ _ us hl => by first | (obtain ⟨_, rfl⟩ := lel1 hl; exact rfl) | exact (match us, hl with | [_], _ => rfl)
  have cf1 : ClsF K cs "OtherRoom" ["word"] := ⟨ox1, fun n hn => by rw [List.mem_singleton.mp hn]; exact y1n_word⟩
  have FI2 := fun_mk (st := si_BadLot) y2l y2c y2p
  have ox2 : OxK K (cs "BadLot") := ⟨⟨_, _, _, _, PySem.F.excBase_ValueError, PySem.F.store_ValueError, y2o, y2m, y2h, y2s, y2x, y2t, y2k⟩⟩
  have bi2 := FI2.binds (ps := ["self"]) fun _ _ _ _ _ _ us hl => by first | (obtain ⟨_, rfl⟩ := lel1 hl; exact rfl) | exact (match us, hl with | [_], _ => rfl)
  have cf2 : ClsF K cs "BadLot" ["word"] := ⟨ox2, fun n hn => by rw [List.mem_singleton.mp hn]; exact y2n_word⟩
  have FI3 := fun_mk (st := si_BadSpot) y3l y3c y3p
  have ox3 : OxK K (cs "BadSpot") := ⟨⟨_, _, _, _, PySem.F.excBase_ValueError, PySem.F.store_ValueError, y3o, y3m, y3h, y3s, y3x, y3t, y3k⟩⟩
  have bi3 := FI3.binds (ps := ["self"]) fun _ _ _ _ _ _ us hl => by first | (obtain ⟨_, rfl⟩ := lel1 hl; exact rfl) | exact (match us, hl with | [_], _ => rfl)
  have cf3 : ClsF K cs "BadSpot" ["word"] := ⟨ox3, fun n hn => by rw [List.mem_singleton.mp hn]; exact y3n_word⟩
  have FI4 := fun_mk (st := si_TooMany) y4l y4c y4p
  have ox4 : OxK K (cs "TooMany") := ⟨⟨_, _, _, _, PySem.F.excBase_ValueError, PySem.F.store_ValueError, y4o, y4m, y4h, y4s, y4x, y4t, y4k⟩⟩
  have bi4 := FI4.binds (ps := ["self"]) fun _ _ _ _ _ _ us hl => by first | (obtain ⟨_, rfl⟩ := lel1 hl; exact rfl) | exact (match us, hl with | [_], _ => rfl)
  have cf4 : ClsF K cs "TooMany" ["word"] := ⟨ox4, fun n hn => by rw [List.mem_singleton.mp hn]; exact y4n_word⟩
  have FI5 := fun_mk (st := si_TooGreat) y5l y5c y5p
  have ox5 : OxK K (cs "TooGreat") := ⟨⟨_, _, _, _, PySem.F.excBase_ValueError, PySem.F.store_ValueError, y5o, y5m, y5h, y5s, y5x, y5t, y5k⟩⟩
  have bi5 := FI5.binds (ps := ["self"]) fun _ _ _ _ _ _ us hl => by first | (obtain ⟨_, rfl⟩ := lel1 hl; exact rfl) | exact (match us, hl with | [_], _ => rfl)
  have cf5 : ClsF K cs "TooGreat" ["word"] := ⟨ox5, fun n hn => by rw [List.mem_singleton.mp hn]; exact y5n_word⟩
  have FI6 := fun_mk (st := si_Flat) y6l y6c y6p
  have ox6 : OxK K (cs "Flat") := ⟨⟨_, _, _, _, PySem.F.excBase_ZeroDivisionError, PySem.F.store_ZeroDivisionError, y6o, y6m, y6h, y6s, y6x, y6t, y6k⟩⟩
  have bi6 := FI6.binds (ps := ["self"]) fun _ _ _ _ _ _ us hl => by first | (obtain ⟨_, rfl⟩ := lel1 hl; exact rfl) | exact (match us, hl with | [_], _ => rfl)
  have cf6 : ClsF K cs "Flat" ["word"] := ⟨ox6, fun n hn => by rw [List.mem_singleton.mp hn]; exact y6n_word⟩
  have F0 := fun_mk (st := s__law_bag) l0 c0 k0
  have b0 := F0.binds (ps := ["_law_script"]) fun _ _ _ _ _ _ us hl => by first | (obtain ⟨_, rfl⟩ := lel1 hl; exact rfl) | exact (match us, hl with | [_], _ => rfl)
  have F1 := fun_mk (st := s__law_pull) l1 c1 k1
  have b1 := F1.binds (ps := ["_law_bag_here", "_law_size"]) fun _ _ _ _ _ _ us hl => by first | (obtain ⟨_, _, rfl⟩ := lel2 hl; exact rfl) | exact (match us, hl with | [_, _], _ => rfl)
  have F2 := fun_mk (st := s__law_room) l2 c2 k2
  have b2 := F2.binds (ps := ["_law_bag_here"]) fun _ _ _ _ _ _ us hl => by first | (obtain ⟨_, rfl⟩ := lel1 hl; exact rfl) | exact (match us, hl with | [_], _ => rfl)
  have F3 := fun_mk (st := s__law_gcd) l3 c3 k3
  have b3 := F3.binds (ps := ["_law_one", "_law_other"]) fun _ _ _ _ _ _ us hl => by first | (obtain ⟨_, _, rfl⟩ := lel2 hl; exact rfl) | exact (match us, hl with | [_, _], _ => rfl)
  have F4 := fun_mk (st := s__law_frac) l4 c4 k4
  have b4 := F4.binds (ps := ["_law_above", "_law_below_here"]) fun _ _ _ _ _ _ us hl => by first | (obtain ⟨_, _, rfl⟩ := lel2 hl; exact rfl) | exact (match us, hl with | [_, _], _ => rfl)
  have F5 := fun_mk (st := s__law_part) l5 c5 k5
  have b5 := F5.binds (ps := ["_law_bag_here"]) fun _ _ _ _ _ _ us hl => by first | (obtain ⟨_, rfl⟩ := lel1 hl; exact rfl) | exact (match us, hl with | [_], _ => rfl)
  have F6 := fun_mk (st := s__law_spot) l6 c6 k6
  have b6 := F6.binds (ps := ["_law_bag_here", "_law_rank"]) fun _ _ _ _ _ _ us hl => by first | (obtain ⟨_, _, rfl⟩ := lel2 hl; exact rfl) | exact (match us, hl with | [_, _], _ => rfl)
  have F7 := fun_mk (st := s__law_sub) l7 c7 k7
  have b7 := F7.binds (ps := ["_law_one", "_law_other"]) fun _ _ _ _ _ _ us hl => by first | (obtain ⟨_, _, rfl⟩ := lel2 hl; exact rfl) | exact (match us, hl with | [_, _], _ => rfl)
  have F8 := fun_mk (st := s__law_add) l8 c8 k8
  have b8 := F8.binds (ps := ["_law_one", "_law_other"]) fun _ _ _ _ _ _ us hl => by first | (obtain ⟨_, _, rfl⟩ := lel2 hl; exact rfl) | exact (match us, hl with | [_, _], _ => rfl)
  have F9 := fun_mk (st := s__law_mul) l9 c9 k9
  have b9 := F9.binds (ps := ["_law_one", "_law_other"]) fun _ _ _ _ _ _ us hl => by first | (obtain ⟨_, _, rfl⟩ := lel2 hl; exact rfl) | exact (match us, hl with | [_, _], _ => rfl)
  have F10 := fun_mk (st := s__law_along) l10 c10 k10
  have b10 := F10.binds (ps := ["_law_one", "_law_two", "_law_share"]) fun _ _ _ _ _ _ us hl => by first | (obtain ⟨_, _, _, rfl⟩ := lel3 hl; exact rfl) | exact (match us, hl with | [_, _, _], _ => rfl)
  have F11 := fun_mk (st := s__law_spots) l11 c11 k11
  have b11 := F11.binds (ps := ["_law_bag_here", "_law_rank", "_law_limit"]) fun _ _ _ _ _ _ us hl => by first | (obtain ⟨_, _, _, rfl⟩ := lel3 hl; exact rfl) | exact (match us, hl with | [_, _, _], _ => rfl)
  have F12 := fun_mk (st := s__law_rows) l12 c12 k12
  have b12 := F12.binds (ps := ["_law_bag_here", "_law_rank", "_law_limit", "_law_corners"]) fun _ _ _ _ _ _ us hl => by first | (obtain ⟨_, _, _, _, rfl⟩ := lel4 hl; exact rfl) | exact (match us, hl with | [_, _, _, _], _ => rfl)
  have F13 := fun_mk (st := s__law_below) l13 c13 k13
  have b13 := F13.binds (ps := ["_law_spots_here"]) fun _ _ _ _ _ _ us hl => by first | (obtain ⟨_, rfl⟩ := lel1 hl; exact rfl) | exact (match us, hl with | [_], _ => rfl)
  have F14 := fun_mk (st := s__law_key) l14 c14 k14
  have b14 := F14.binds (ps := ["_law_spots_here", "_law_below_here"]) fun _ _ _ _ _ _ us hl => by first | (obtain ⟨_, _, rfl⟩ := lel2 hl; exact rfl) | exact (match us, hl with | [_, _], _ => rfl)
  have F15 := fun_mk (st := s__law_rising) l15 c15 k15
  have b15 := F15.binds (ps := ["_law_spots_here"]) fun _ _ _ _ _ _ us hl => by first | (obtain ⟨_, rfl⟩ := lel1 hl; exact rfl) | exact (match us, hl with | [_], _ => rfl)
  have F16 := fun_mk (st := s__law_sign) l16 c16 k16
  have b16 := F16.binds (ps := ["_law_number"]) fun _ _ _ _ _ _ us hl => by first | (obtain ⟨_, rfl⟩ := lel1 hl; exact rfl) | exact (match us, hl with | [_], _ => rfl)
  have F17 := fun_mk (st := s__law_det) l17 c17 k17
  have b17 := F17.binds (ps := ["_law_one", "_law_two", "_law_three"]) fun _ _ _ _ _ _ us hl => by first | (obtain ⟨_, _, _, rfl⟩ := lel3 hl; exact rfl) | exact (match us, hl with | [_, _, _], _ => rfl)
  have F18 := fun_mk (st := s__law_hom) l18 c18 k18
  have b18 := F18.binds (ps := ["_law_spot_here"]) fun _ _ _ _ _ _ us hl => by first | (obtain ⟨_, rfl⟩ := lel1 hl; exact rfl) | exact (match us, hl with | [_], _ => rfl)
  have F19 := fun_mk (st := s__law_turn) l19 c19 k19
  have b19 := F19.binds (ps := ["_law_one", "_law_two", "_law_three"]) fun _ _ _ _ _ _ us hl => by first | (obtain ⟨_, _, _, rfl⟩ := lel3 hl; exact rfl) | exact (match us, hl with | [_, _, _], _ => rfl)
  have F20 := fun_mk (st := s__law_cmp) l20 c20 k20
  have b20 := F20.binds (ps := ["_law_one", "_law_other"]) fun _ _ _ _ _ _ us hl => by first | (obtain ⟨_, _, rfl⟩ := lel2 hl; exact rfl) | exact (match us, hl with | [_, _], _ => rfl)
  have F21 := fun_mk (st := s__law_between) l21 c21 k21
  have b21 := F21.binds (ps := ["_law_one", "_law_two", "_law_spot_here"]) fun _ _ _ _ _ _ us hl => by first | (obtain ⟨_, _, _, rfl⟩ := lel3 hl; exact rfl) | exact (match us, hl with | [_, _, _], _ => rfl)
  have F22 := fun_mk (st := s__law_next) l22 c22 k22
  have b22 := F22.binds (ps := ["_law_row", "_law_here"]) fun _ _ _ _ _ _ us hl => by first | (obtain ⟨_, _, rfl⟩ := lel2 hl; exact rfl) | exact (match us, hl with | [_, _], _ => rfl)
  have F23 := fun_mk (st := s__law_body) l23 c23 k23
  have b23 := F23.binds (ps := ["_law_spots_here"]) fun _ _ _ _ _ _ us hl => by first | (obtain ⟨_, rfl⟩ := lel1 hl; exact rfl) | exact (match us, hl with | [_], _ => rfl)
  have F24 := fun_mk (st := s__law_lot) l24 c24 k24
  have b24 := F24.binds (ps := ["_law_rows_here", "_law_rank"]) fun _ _ _ _ _ _ us hl => by first | (obtain ⟨_, _, rfl⟩ := lel2 hl; exact rfl) | exact (match us, hl with | [_, _], _ => rfl)
  have F25 := fun_mk (st := s__law_like) l25 c25 k25
  have b25 := F25.binds (ps := ["_law_found", "_law_due"]) fun _ _ _ _ _ _ us hl => by first | (obtain ⟨_, _, rfl⟩ := lel2 hl; exact rfl) | exact (match us, hl with | [_, _], _ => rfl)
  have F26 := fun_mk (st := s__law_bent) l26 c26 k26
  have b26 := F26.binds (ps := ["_law_bag_here", "_law_row", "_law_rank"]) fun _ _ _ _ _ _ us hl => by first | (obtain ⟨_, _, _, rfl⟩ := lel3 hl; exact rfl) | exact (match us, hl with | [_, _, _], _ => rfl)
  have F27 := fundk_mk (st := s_is_small) (kws := [("limit", V.int 1000000000000000000)]) l27 c27 k27 (fun q hq => (List.mem_cons.mp hq).elim (fun e => by subst e; exact ⟨_, t27_0, ⟨_, rfl⟩⟩) (fun hq => by cases hq))
  obtain ⟨q27, w27, u27⟩ := F27.binds0 (ps := ["number", "limit"]) 1 (by simp) rfl fun _ _ _ _ _ _ us ks hl hl2 => match us, ks, hl, hl2 with | [_], [_], _, _ => ⟨_, _, _, _, _, _, rfl, rfl, rfl⟩
  have kb27 := kbinds_all (ps := ["number", "limit"]) (ks := ["limit"]) (n := 1) F27 fun _ _ _ _ _ _ us ws hl hl2 => match us, ws, hl, hl2 with | [_], [_], _, _ => rfl
  have F28 := fun_mk (st := s_bounded) l28 c28 k28
  have b28 := F28.binds (ps := ["lot"]) fun _ _ _ _ _ _ us hl => by first | (obtain ⟨_, rfl⟩ := lel1 hl; exact rfl) | exact (match us, hl with | [_], _ => rfl)
  have F29 := fun_mk (st := s_shared) l29 c29 k29
  have b29 := F29.binds (ps := ["one", "other"]) fun _ _ _ _ _ _ us hl => by first | (obtain ⟨_, _, rfl⟩ := lel2 hl; exact rfl) | exact (match us, hl with | [_, _], _ => rfl)
  have F30 := fun_mk (st := s_common_below) l30 c30 k30
  have b30 := F30.binds (ps := ["spots"]) fun _ _ _ _ _ _ us hl => by first | (obtain ⟨_, rfl⟩ := lel1 hl; exact rfl) | exact (match us, hl with | [_], _ => rfl)
  have F31 := fun_mk (st := s_whole_row) l31 c31 k31
  have b31 := F31.binds (ps := ["spot", "common"]) fun _ _ _ _ _ _ us hl => by first | (obtain ⟨_, _, rfl⟩ := lel2 hl; exact rfl) | exact (match us, hl with | [_, _], _ => rfl)
  have F32 := fun_mk (st := s_in_order) l32 c32 k32
  have b32 := F32.binds (ps := ["bodies"]) fun _ _ _ _ _ _ us hl => by first | (obtain ⟨_, rfl⟩ := lel1 hl; exact rfl) | exact (match us, hl with | [_], _ => rfl)
  have F33 := fun_mk (st := s_gathered) l33 c33 k33
  have b33 := F33.binds (ps := ["rows", "room"]) fun _ _ _ _ _ _ us hl => by first | (obtain ⟨_, _, rfl⟩ := lel2 hl; exact rfl) | exact (match us, hl with | [_, _], _ => rfl)
  have F34 := fun_mk (st := s_settled_lot) l34 c34 k34
  have b34 := F34.binds (ps := ["rows", "room"]) fun _ _ _ _ _ _ us hl => by first | (obtain ⟨_, _, rfl⟩ := lel2 hl; exact rfl) | exact (match us, hl with | [_, _], _ => rfl)
  have F35 := fun_mk (st := s_rising) l35 c35 k35
  have b35 := F35.binds (ps := ["spots"]) fun _ _ _ _ _ _ us hl => by first | (obtain ⟨_, rfl⟩ := lel1 hl; exact rfl) | exact (match us, hl with | [_], _ => rfl)
  have F36 := fun_mk (st := s_order) l36 c36 k36
  have b36 := F36.binds (ps := ["one", "other"]) fun _ _ _ _ _ _ us hl => by first | (obtain ⟨_, _, rfl⟩ := lel2 hl; exact rfl) | exact (match us, hl with | [_, _], _ => rfl)
  have F37 := fund_mk (st := s_part) (dvs := [V.int 1]) l37 c37 k37 t37 (.cons ⟨_, rfl⟩ .nil) (by simp)
  have b37 := binds_all (ps := ["above", "below"]) F37 (by simp) fun _ _ _ _ _ _ _ us its hl hl2 => match us, its, hl, hl2 with | [_, _], [_], _, _ => ⟨_, rfl, rfl⟩
  obtain ⟨q37_1, w37_1, u37_1⟩ := F37.binds1 (ps := ["above", "below"]) 1 0 (by simp) rfl fun _ _ _ _ _ _ _ us its hl hl2 => match us, its, hl, hl2 with | [_], [_], _, _ => ⟨_, rfl, rfl⟩
  have F38 := fun_mk (st := s_minus) l38 c38 k38
  have b38 := F38.binds (ps := ["one", "other"]) fun _ _ _ _ _ _ us hl => by first | (obtain ⟨_, _, rfl⟩ := lel2 hl; exact rfl) | exact (match us, hl with | [_, _], _ => rfl)
  have F39 := fun_mk (st := s_times) l39 c39 k39
  have b39 := F39.binds (ps := ["one", "other"]) fun _ _ _ _ _ _ us hl => by first | (obtain ⟨_, _, rfl⟩ := lel2 hl; exact rfl) | exact (match us, hl with | [_, _], _ => rfl)
  have F40 := fun_mk (st := s_across) l40 c40 k40
  have b40 := F40.binds (ps := ["one", "other"]) fun _ _ _ _ _ _ us hl => by first | (obtain ⟨_, _, rfl⟩ := lel2 hl; exact rfl) | exact (match us, hl with | [_, _], _ => rfl)
  have F41 := fun_mk (st := s_step_from) l41 c41 k41
  have b41 := F41.binds (ps := ["one", "other"]) fun _ _ _ _ _ _ us hl => by first | (obtain ⟨_, _, rfl⟩ := lel2 hl; exact rfl) | exact (match us, hl with | [_, _], _ => rfl)
  have F42 := fun_mk (st := s_side_of) l42 c42 k42
  have b42 := F42.binds (ps := ["start", "end", "spot"]) fun _ _ _ _ _ _ us hl => by first | (obtain ⟨_, _, _, rfl⟩ := lel3 hl; exact rfl) | exact (match us, hl with | [_, _, _], _ => rfl)
  have F43 := fun_mk (st := s_hull_side) l43 c43 k43
  have b43 := F43.binds (ps := ["spots"]) fun _ _ _ _ _ _ us hl => by first | (obtain ⟨_, rfl⟩ := lel1 hl; exact rfl) | exact (match us, hl with | [_], _ => rfl)
  have F44 := fun_mk (st := s_corners_round) l44 c44 k44
  have b44 := F44.binds (ps := ["spots"]) fun _ _ _ _ _ _ us hl => by first | (obtain ⟨_, rfl⟩ := lel1 hl; exact rfl) | exact (match us, hl with | [_], _ => rfl)
  have F45 := fun_mk (st := s_is_whole) l45 c45 k45
  have b45 := F45.binds (ps := ["thing"]) fun _ _ _ _ _ _ us hl => by first | (obtain ⟨_, rfl⟩ := lel1 hl; exact rfl) | exact (match us, hl with | [_], _ => rfl)
  have F46 := fun_mk (st := s_is_part) l46 c46 k46
  have b46 := F46.binds (ps := ["thing"]) fun _ _ _ _ _ _ us hl => by first | (obtain ⟨_, rfl⟩ := lel1 hl; exact rfl) | exact (match us, hl with | [_], _ => rfl)
  have F47 := fundk_mk (st := s_is_spot) (kws := [("room", V.int 2)]) l47 c47 k47 (fun q hq => (List.mem_cons.mp hq).elim (fun e => by subst e; exact ⟨_, t47_0, ⟨_, rfl⟩⟩) (fun hq => by cases hq))
  obtain ⟨q47, w47, u47⟩ := F47.binds0 (ps := ["thing", "room"]) 1 (by simp) rfl fun _ _ _ _ _ _ us ks hl hl2 => match us, ks, hl, hl2 with | [_], [_], _, _ => ⟨_, _, _, _, _, _, rfl, rfl, rfl⟩
  have kb47 := kbinds_all (ps := ["thing", "room"]) (ks := ["room"]) (n := 1) F47 fun _ _ _ _ _ _ us ws hl hl2 => match us, ws, hl, hl2 with | [_], [_], _, _ => rfl
  have F48 := fun_mk (st := s_body_of) l48 c48 k48
  have b48 := F48.binds (ps := ["spots"]) fun _ _ _ _ _ _ us hl => by first | (obtain ⟨_, rfl⟩ := lel1 hl; exact rfl) | exact (match us, hl with | [_], _ => rfl)
  have F49 := fundk_mk (st := s_lot_of) (kws := [("room", V.int 2)]) l49 c49 k49 (fun q hq => (List.mem_cons.mp hq).elim (fun e => by subst e; exact ⟨_, t49_0, ⟨_, rfl⟩⟩) (fun hq => by cases hq))
  obtain ⟨q49, w49, u49⟩ := F49.binds0 (ps := ["rows", "room"]) 1 (by simp) rfl fun _ _ _ _ _ _ us ks hl hl2 => match us, ks, hl, hl2 with | [_], [_], _, _ => ⟨_, _, _, _, _, _, rfl, rfl, rfl⟩
  have kb49 := kbinds_all (ps := ["rows", "room"]) (ks := ["room"]) (n := 1) F49 fun _ _ _ _ _ _ us ws hl hl2 => match us, ws, hl, hl2 with | [_], [_], _, _ => rfl
  have F50 := fun_mk (st := s__law_told) l50 c50 k50
  have b50 := F50.binds (ps := ["_law_rows_here", "_law_rank"]) fun _ _ _ _ _ _ us hl => by first | (obtain ⟨_, _, rfl⟩ := lel2 hl; exact rfl) | exact (match us, hl with | [_, _], _ => rfl)
  have F51 := fund_mk (st := s_nothing) (dvs := [V.int 2]) l51 c51 k51 t51 (.cons ⟨_, rfl⟩ .nil) (by simp)
  have b51 := binds_all (ps := ["room"]) F51 (by simp) fun _ _ _ _ _ _ _ us its hl hl2 => match us, its, hl, hl2 with | [_], [_], _, _ => ⟨_, rfl, rfl⟩
  obtain ⟨q51_1, w51_1, u51_1⟩ := F51.binds1 (ps := ["room"]) 0 0 (by simp) rfl fun _ _ _ _ _ _ _ us its hl hl2 => match us, its, hl, hl2 with | [], [_], _, _ => ⟨_, rfl, rfl⟩
  have F52 := fun_mk (st := s_law) l52 c52 k52
  have T : TX K mg := { cs := cs, ox_Unfit := ox0, kC_Unfit := y0k, fI_Unfit := _, dI_Unfit := _, FI_Unfit := FI0, i_Unfit := y0i, ti_Unfit := y0f, bi_Unfit := bi0, g_Unfit := PySem.W.mg_of X G y0g, xf_Unfit := ⟨y0a, y0b, y0x, y0h⟩, nw_Unfit_word := y0n_word, cf_Unfit := cf0, rd_Unfit := y0r, ga_Unfit := y0q, fc_Unfit := y0v, ox_OtherRoom := ox1, kC_OtherRoom := y1k, fI_OtherRoom := _, dI_OtherRoom := _, FI_OtherRoom := FI1, i_OtherRoom := y1i, ti_OtherRoom := y1f, bi_OtherRoom := bi1, g_OtherRoom := PySem.W.mg_of X G y1g, xf_OtherRoom := ⟨y1a, y1b, y1x, y1h⟩, nw_OtherRoom_word := y1n_word, cf_OtherRoom := cf1, ox_BadLot := ox2, kC_BadLot := y2k, fI_BadLot := _, dI_BadLot := _, FI_BadLot := FI2, i_BadLot := y2i, ti_BadLot := y2f, bi_BadLot := bi2, g_BadLot := PySem.W.mg_of X G y2g, xf_BadLot := ⟨y2a, y2b, y2x, y2h⟩, nw_BadLot_word := y2n_word, cf_BadLot := cf2, ox_BadSpot := ox3, kC_BadSpot := y3k, fI_BadSpot := _, dI_BadSpot := _, FI_BadSpot := FI3, i_BadSpot := y3i, ti_BadSpot := y3f, bi_BadSpot := bi3, g_BadSpot := PySem.W.mg_of X G y3g, xf_BadSpot := ⟨y3a, y3b, y3x, y3h⟩, nw_BadSpot_word := y3n_word, cf_BadSpot := cf3, ox_TooMany := ox4, kC_TooMany := y4k, fI_TooMany := _, dI_TooMany := _, FI_TooMany := FI4, i_TooMany := y4i, ti_TooMany := y4f, bi_TooMany := bi4, g_TooMany := PySem.W.mg_of X G y4g, xf_TooMany := ⟨y4a, y4b, y4x, y4h⟩, nw_TooMany_word := y4n_word, cf_TooMany := cf4, ox_TooGreat := ox5, kC_TooGreat := y5k, fI_TooGreat := _, dI_TooGreat := _, FI_TooGreat := FI5, i_TooGreat := y5i, ti_TooGreat := y5f, bi_TooGreat := bi5, g_TooGreat := PySem.W.mg_of X G y5g, xf_TooGreat := ⟨y5a, y5b, y5x, y5h⟩, nw_TooGreat_word := y5n_word, cf_TooGreat := cf5, ox_Flat := ox6, kC_Flat := y6k, fI_Flat := _, dI_Flat := _, FI_Flat := FI6, i_Flat := y6i, ti_Flat := y6f, bi_Flat := bi6, g_Flat := PySem.W.mg_of X G y6g, xf_Flat := ⟨y6a, y6b, y6x, y6h⟩, nw_Flat_word := y6n_word, cf_Flat := cf6, em_BadLot_BadLot := em_of y2x y2h y2t e0, em_BadLot_OtherRoom := em_of y1x y1h y1t e1, em_BadSpot_BadLot := em_of y2x y2h y2t e2, em_BadSpot_BadSpot := em_of y3x y3h y3t e3, em_BadSpot_OtherRoom := em_of y1x y1h y1t e4, em_OtherRoom_OtherRoom := em_of y1x y1h y1t e5, a__law_bag := f0, d__law_bag := _, F__law_bag := F0, g__law_bag := PySem.W.mg_of X G a0, b__law_bag := b0, a__law_pull := f1, d__law_pull := _, F__law_pull := F1, g__law_pull := PySem.W.mg_of X G a1, b__law_pull := b1, a__law_room := f2, d__law_room := _, F__law_room := F2, g__law_room := PySem.W.mg_of X G a2, b__law_room := b2, a__law_gcd := f3, d__law_gcd := _, F__law_gcd := F3, g__law_gcd := PySem.W.mg_of X G a3, b__law_gcd := b3, a__law_frac := f4, d__law_frac := _, F__law_frac := F4, g__law_frac := PySem.W.mg_of X G a4, b__law_frac := b4, a__law_part := f5, d__law_part := _, F__law_part := F5, g__law_part := PySem.W.mg_of X G a5, b__law_part := b5, a__law_spot := f6, d__law_spot := _, F__law_spot := F6, g__law_spot := PySem.W.mg_of X G a6, b__law_spot := b6, a__law_sub := f7, d__law_sub := _, F__law_sub := F7, g__law_sub := PySem.W.mg_of X G a7, b__law_sub := b7, a__law_add := f8, d__law_add := _, F__law_add := F8, g__law_add := PySem.W.mg_of X G a8, b__law_add := b8, a__law_mul := f9, d__law_mul := _, F__law_mul := F9, g__law_mul := PySem.W.mg_of X G a9, b__law_mul := b9, a__law_along := f10, d__law_along := _, F__law_along := F10, g__law_along := PySem.W.mg_of X G a10, b__law_along := b10, a__law_spots := f11, d__law_spots := _, F__law_spots := F11, g__law_spots := PySem.W.mg_of X G a11, b__law_spots := b11, a__law_rows := f12, d__law_rows := _, F__law_rows := F12, g__law_rows := PySem.W.mg_of X G a12, b__law_rows := b12, a__law_below := f13, d__law_below := _, F__law_below := F13, g__law_below := PySem.W.mg_of X G a13, b__law_below := b13, a__law_key := f14, d__law_key := _, F__law_key := F14, g__law_key := PySem.W.mg_of X G a14, b__law_key := b14, a__law_rising := f15, d__law_rising := _, F__law_rising := F15, g__law_rising := PySem.W.mg_of X G a15, b__law_rising := b15, a__law_sign := f16, d__law_sign := _, F__law_sign := F16, g__law_sign := PySem.W.mg_of X G a16, b__law_sign := b16, a__law_det := f17, d__law_det := _, F__law_det := F17, g__law_det := PySem.W.mg_of X G a17, b__law_det := b17, a__law_hom := f18, d__law_hom := _, F__law_hom := F18, g__law_hom := PySem.W.mg_of X G a18, b__law_hom := b18, a__law_turn := f19, d__law_turn := _, F__law_turn := F19, g__law_turn := PySem.W.mg_of X G a19, b__law_turn := b19, a__law_cmp := f20, d__law_cmp := _, F__law_cmp := F20, g__law_cmp := PySem.W.mg_of X G a20, b__law_cmp := b20, a__law_between := f21, d__law_between := _, F__law_between := F21, g__law_between := PySem.W.mg_of X G a21, b__law_between := b21, a__law_next := f22, d__law_next := _, F__law_next := F22, g__law_next := PySem.W.mg_of X G a22, b__law_next := b22, a__law_body := f23, d__law_body := _, F__law_body := F23, g__law_body := PySem.W.mg_of X G a23, b__law_body := b23, a__law_lot := f24, d__law_lot := _, F__law_lot := F24, g__law_lot := PySem.W.mg_of X G a24, b__law_lot := b24, a__law_like := f25, d__law_like := _, F__law_like := F25, g__law_like := PySem.W.mg_of X G a25, b__law_like := b25, a__law_bent := f26, d__law_bent := _, F__law_bent := F26, g__law_bent := PySem.W.mg_of X G a26, b__law_bent := b26, a_is_small := f27, d_is_small := _, F_is_small := F27, g_is_small := PySem.W.mg_of X G a27, kb_is_small := kb27, e1_is_small := q27, v1_is_small := w27, b1_is_small := u27, a_bounded := f28, d_bounded := _, F_bounded := F28, g_bounded := PySem.W.mg_of X G a28, b_bounded := b28, a_shared := f29, d_shared := _, F_shared := F29, g_shared := PySem.W.mg_of X G a29, b_shared := b29, a_common_below := f30, d_common_below := _, F_common_below := F30, g_common_below := PySem.W.mg_of X G a30, b_common_below := b30, a_whole_row := f31, d_whole_row := _, F_whole_row := F31, g_whole_row := PySem.W.mg_of X G a31, b_whole_row := b31, a_in_order := f32, d_in_order := _, F_in_order := F32, g_in_order := PySem.W.mg_of X G a32, b_in_order := b32, a_gathered := f33, d_gathered := _, F_gathered := F33, g_gathered := PySem.W.mg_of X G a33, b_gathered := b33, a_settled_lot := f34, d_settled_lot := _, F_settled_lot := F34, g_settled_lot := PySem.W.mg_of X G a34, b_settled_lot := b34, a_rising := f35, d_rising := _, F_rising := F35, g_rising := PySem.W.mg_of X G a35, b_rising := b35, a_order := f36, d_order := _, F_order := F36, g_order := PySem.W.mg_of X G a36, b_order := b36, a_part := f37, d_part := _, F_part := F37, g_part := PySem.W.mg_of X G a37, b_part := b37, e1_part := q37_1, v1_part := w37_1, b1_part := u37_1, a_minus := f38, d_minus := _, F_minus := F38, g_minus := PySem.W.mg_of X G a38, b_minus := b38, a_times := f39, d_times := _, F_times := F39, g_times := PySem.W.mg_of X G a39, b_times := b39, a_across := f40, d_across := _, F_across := F40, g_across := PySem.W.mg_of X G a40, b_across := b40, a_step_from := f41, d_step_from := _, F_step_from := F41, g_step_from := PySem.W.mg_of X G a41, b_step_from := b41, a_side_of := f42, d_side_of := _, F_side_of := F42, g_side_of := PySem.W.mg_of X G a42, b_side_of := b42, a_hull_side := f43, d_hull_side := _, F_hull_side := F43, g_hull_side := PySem.W.mg_of X G a43, b_hull_side := b43, a_corners_round := f44, d_corners_round := _, F_corners_round := F44, g_corners_round := PySem.W.mg_of X G a44, b_corners_round := b44, a_is_whole := f45, d_is_whole := _, F_is_whole := F45, g_is_whole := PySem.W.mg_of X G a45, b_is_whole := b45, a_is_part := f46, d_is_part := _, F_is_part := F46, g_is_part := PySem.W.mg_of X G a46, b_is_part := b46, a_is_spot := f47, d_is_spot := _, F_is_spot := F47, g_is_spot := PySem.W.mg_of X G a47, kb_is_spot := kb47, e1_is_spot := q47, v1_is_spot := w47, b1_is_spot := u47, a_body_of := f48, d_body_of := _, F_body_of := F48, g_body_of := PySem.W.mg_of X G a48, b_body_of := b48, a_lot_of := f49, d_lot_of := _, F_lot_of := F49, g_lot_of := PySem.W.mg_of X G a49, kb_lot_of := kb49, e1_lot_of := q49, v1_lot_of := w49, b1_lot_of := u49, a__law_told := f50, d__law_told := _, F__law_told := F50, g__law_told := PySem.W.mg_of X G a50, b__law_told := b50, a_nothing := f51, d_nothing := _, F_nothing := F51, g_nothing := PySem.W.mg_of X G a51, b_nothing := b51, e1_nothing := q51_1, v1_nothing := w51_1, b1_nothing := u51_1, tk_MOST := _, c_MOST := PySem.W.mg_of X G kc0, n_abs := PySem.W.mg_none_of X G z0, n_all := PySem.W.mg_none_of X G z1, n_any := PySem.W.mg_none_of X G z2, n_bool := PySem.W.mg_none_of X G z3, n_int := PySem.W.mg_none_of X G z4, n_isinstance := PySem.W.mg_none_of X G z5, n_len := PySem.W.mg_none_of X G z6, n_list := PySem.W.mg_none_of X G z7, n_max := PySem.W.mg_none_of X G z8, n_range := PySem.W.mg_none_of X G z9, n_sorted := PySem.W.mg_none_of X G z10, n_str := PySem.W.mg_none_of X G z11, n_tuple := PySem.W.mg_none_of X G z12, n_zip := PySem.W.mg_none_of X G z13 }
  exact ⟨_, fun s v => .of_eq rfl, fun base _ _ => ok_law T F52⟩
  ) only [↓qt_eq])
end Law
end U.N
open PySem PySem.W PyProof.Rows
set_option maxHeartbeats 0 in
theorem PySem.Challenge.cw_umbrage_k19_lots_told_holds : PySem.Challenge.rw_umbrage_k19_lots_told.Holds := by
  refine U.head_top ?_
  k_fill
  refine L2.walk_of (l := PySem.Challenge.rw_umbrage_k19_lots_told) (n := 63) (k := 12) (x := "_law_script") (CX := fun _ => L2.CX0) (sp := fun w => U.spP _ U.PLaw) rfl (by decide) rfl ⟨rfl, by decide, by decide⟩ (fun w h Y => PySem.W.kIn_of Y) ?F (fun _ _ a ns hl _ hS => ⟨fun _ => False, [.list (ns.map PyData.int)], .bool true, fun _ z => z.elim, .cons (.lst (U.less_none hS) (U.dpa_of_ints _)) .nil, ⟨ns, rfl, hl, rfl⟩, fun v H' _ d => by cases d; rfl⟩) (fun _ _ _ _ _ h => h)
  case F =>
    intro w mg fa h KX G hmg
    refine' U.N.Law.all_mk KX G hmg ?a0 ?l0 ?c0 ?k0 ?a1 ?l1 ?c1 ?k1 ?a2 ?l2 ?c2 ?k2 ?a3 ?l3 ?c3 ?k3 ?a4 ?l4 ?c4 ?k4 ?a5 ?l5 ?c5 ?k5 ?a6 ?l6 ?c6 ?k6 ?a7 ?l7 ?c7 ?k7 ?a8 ?l8 ?c8 ?k8 ?a9 ?l9 ?c9 ?k9 ?a10 ?l10 ?c10 ?k10 ?a11 ?l11 ?c11 ?k11 ?a12 ?l12 ?c12 ?k12 ?a13 ?l13 ?c13 ?k13 ?a14 ?l14 ?c14 ?k14 ?a15 ?l15 ?c15 ?k15 ?a16 ?l16 ?c16 ?k16 ?a17 ?l17 ?c17 ?k17 ?a18 ?l18 ?c18 ?k18 ?a19 ?l19 ?c19 ?k19 ?a20 ?l20 ?c20 ?k20 ?a21 ?l21 ?c21 ?k21 ?a22 ?l22 ?c22 ?k22 ?a23 ?l23 ?c23 ?k23 ?a24 ?l24 ?c24 ?k24 ?a25 ?l25 ?c25 ?k25 ?a26 ?l26 ?c26 ?k26 ?a27 ?l27 ?c27 ?k27 ?t27_0 ?a28 ?l28 ?c28 ?k28 ?a29 ?l29 ?c29 ?k29 ?a30 ?l30 ?c30 ?k30 ?a31 ?l31 ?c31 ?k31 ?a32 ?l32 ?c32 ?k32 ?a33 ?l33 ?c33 ?k33 ?a34 ?l34 ?c34 ?k34 ?a35 ?l35 ?c35 ?k35 ?a36 ?l36 ?c36 ?k36 ?a37 ?l37 ?c37 ?k37 ?t37 ?a38 ?l38 ?c38 ?k38 ?a39 ?l39 ?c39 ?k39 ?a40 ?l40 ?c40 ?k40 ?a41 ?l41 ?c41 ?k41 ?a42 ?l42 ?c42 ?k42 ?a43 ?l43 ?c43 ?k43 ?a44 ?l44 ?c44 ?k44 ?a45 ?l45 ?c45 ?k45 ?a46 ?l46 ?c46 ?k46 ?a47 ?l47 ?c47 ?k47 ?t47_0 ?a48 ?l48 ?c48 ?k48 ?a49 ?l49 ?c49 ?k49 ?t49_0 ?a50 ?l50 ?c50 ?k50 ?a51 ?l51 ?c51 ?k51 ?t51 ?a52 ?l52 ?c52 ?k52 ?y0g ?y0o ?y0m ?y0h ?y0s ?y0x ?y0t ?y0k ?y0i ?y0f ?y0l ?y0c ?y0p ?y0a ?y0b ?y0n_word ?y0r ?y0q ?y0v ?y0d ?y1g ?y1o ?y1m ?y1h ?y1s ?y1x ?y1t ?y1k ?y1i ?y1f ?y1l ?y1c ?y1p ?y1a ?y1b ?y1n_word ?y2g ?y2o ?y2m ?y2h ?y2s ?y2x ?y2t ?y2k ?y2i ?y2f ?y2l ?y2c ?y2p ?y2a ?y2b ?y2n_word ?y3g ?y3o ?y3m ?y3h ?y3s ?y3x ?y3t ?y3k ?y3i ?y3f ?y3l ?y3c ?y3p ?y3a ?y3b ?y3n_word ?y4g ?y4o ?y4m ?y4h ?y4s ?y4x ?y4t ?y4k ?y4i ?y4f ?y4l ?y4c ?y4p ?y4a ?y4b ?y4n_word ?y5g ?y5o ?y5m ?y5h ?y5s ?y5x ?y5t ?y5k ?y5i ?y5f ?y5l ?y5c ?y5p ?y5a ?y5b ?y5n_word ?y6g ?y6o ?y6m ?y6h ?y6s ?y6x ?y6t ?y6k ?y6i ?y6f ?y6l ?y6c ?y6p ?y6a ?y6b ?y6n_word ?e0 ?e1 ?e2 ?e3 ?e4 ?e5 ?z0 ?z1 ?z2 ?z3 ?z4 ?z5 ?z6 ?z7 ?z8 ?z9 ?z10 ?z11 ?z12 ?z13 ?kc0
    (case a0 => k_is); (case l0 => k_is); (case c0 => k_is); (case k0 => k_is); (case a1 => k_is); (case l1 => k_is); (case c1 => k_is); (case k1 => k_is); (case a2 => k_is); (case l2 => k_is); (case c2 => k_is); (case k2 => k_is); (case a3 => k_is); (case l3 => k_is); (case c3 => k_is); (case k3 => k_is); (case a4 => k_is); (case l4 => k_is); (case c4 => k_is); (case k4 => k_is); (case a5 => k_is); (case l5 => k_is); (case c5 => k_is); (case k5 => k_is); (case a6 => k_is); (case l6 => k_is); (case c6 => k_is); (case k6 => k_is); (case a7 => k_is); (case l7 => k_is); (case c7 => k_is); (case k7 => k_is); (case a8 => k_is); (case l8 => k_is); (case c8 => k_is); (case k8 => k_is); (case a9 => k_is); (case l9 => k_is); (case c9 => k_is); (case k9 => k_is); (case a10 => k_is); (case l10 => k_is); (case c10 => k_is); (case k10 => k_is); (case a11 => k_is); (case l11 => k_is); (case c11 => k_is); (case k11 => k_is); (case a12 => k_is); (case l12 => k_is); (case c12 => k_is); (case k12 => k_is); (case a13 => k_is); (case l13 => k_is); (case c13 => k_is); (case k13 => k_is); (case a14 => k_is); (case l14 => k_is); (case c14 => k_is); (case k14 => k_is); (case a15 => k_is); (case l15 => k_is); (case c15 => k_is); (case k15 => k_is); (case a16 => k_is); (case l16 => k_is); (case c16 => k_is); (case k16 => k_is); (case a17 => k_is); (case l17 => k_is); (case c17 => k_is); (case k17 => k_is); (case a18 => k_is); (case l18 => k_is); (case c18 => k_is); (case k18 => k_is); (case a19 => k_is); (case l19 => k_is); (case c19 => k_is); (case k19 => k_is); (case a20 => k_is); (case l20 => k_is); (case c20 => k_is); (case k20 => k_is); (case a21 => k_is); (case l21 => k_is); (case c21 => k_is); (case k21 => k_is); (case a22 => k_is); (case l22 => k_is); (case c22 => k_is); (case k22 => k_is); (case a23 => k_is); (case l23 => k_is); (case c23 => k_is); (case k23 => k_is); (case a24 => k_is); (case l24 => k_is); (case c24 => k_is); (case k24 => k_is); (case a25 => k_is); (case l25 => k_is); (case c25 => k_is); (case k25 => k_is); (case a26 => k_is); (case l26 => k_is); (case c26 => k_is); (case k26 => k_is); (case a27 => k_is); (case l27 => k_is); (case c27 => k_is); (case k27 => k_is); (case t27_0 => k_is); (case a28 => k_is); (case l28 => k_is); (case c28 => k_is); (case k28 => k_is); (case a29 => k_is); (case l29 => k_is); (case c29 => k_is); (case k29 => k_is); (case a30 => k_is); (case l30 => k_is); (case c30 => k_is); (case k30 => k_is); (case a31 => k_is); (case l31 => k_is); (case c31 => k_is); (case k31 => k_is); (case a32 => k_is); (case l32 => k_is); (case c32 => k_is); (case k32 => k_is); (case a33 => k_is); (case l33 => k_is); (case c33 => k_is); (case k33 => k_is); (case a34 => k_is); (case l34 => k_is); (case c34 => k_is); (case k34 => k_is); (case a35 => k_is); (case l35 => k_is); (case c35 => k_is); (case k35 => k_is); (case a36 => k_is); (case l36 => k_is); (case c36 => k_is); (case k36 => k_is); (case a37 => k_is); (case l37 => k_is); (case c37 => k_is); (case k37 => k_is); (case t37 => k_is); (case a38 => k_is); (case l38 => k_is); (case c38 => k_is); (case k38 => k_is); (case a39 => k_is); (case l39 => k_is); (case c39 => k_is); (case k39 => k_is); (case a40 => k_is); (case l40 => k_is); (case c40 => k_is); (case k40 => k_is); (case a41 => k_is); (case l41 => k_is); (case c41 => k_is); (case k41 => k_is); (case a42 => k_is); (case l42 => k_is); (case c42 => k_is); (case k42 => k_is); (case a43 => k_is); (case l43 => k_is); (case c43 => k_is); (case k43 => k_is); (case a44 => k_is); (case l44 => k_is); (case c44 => k_is); (case k44 => k_is); (case a45 => k_is); (case l45 => k_is); (case c45 => k_is); (case k45 => k_is); (case a46 => k_is); (case l46 => k_is); (case c46 => k_is); (case k46 => k_is); (case a47 => k_is); (case l47 => k_is); (case c47 => k_is); (case k47 => k_is); (case t47_0 => k_is); (case a48 => k_is); (case l48 => k_is); (case c48 => k_is); (case k48 => k_is); (case a49 => k_is); (case l49 => k_is); (case c49 => k_is); (case k49 => k_is); (case t49_0 => k_is); (case a50 => k_is); (case l50 => k_is); (case c50 => k_is); (case k50 => k_is); (case a51 => k_is); (case l51 => k_is); (case c51 => k_is); (case k51 => k_is); (case t51 => k_is); (case a52 => k_is); (case l52 => k_is); (case c52 => k_is); (case k52 => k_is); (case y0g => k_is); (case y0o => kx_is); (case y0m => kx_is); (case y0h => k_is); (case y0s => k_is); (case y0x => k_is); (case y0t => k_is); (case y0k => k_is); (case y0i => k_is); (case y0f => k_is); (case y0l => k_is); (case y0c => k_is); (case y0p => k_is); (case y0a => k_is); (case y0b => k_is); (case y0n_word => k_is); (case y0r => k_is); (case y0q => k_is); (case y0v => k_is); (case y0d => k_is); (case y1g => k_is); (case y1o => kx_is); (case y1m => kx_is); (case y1h => k_is); (case y1s => k_is); (case y1x => k_is); (case y1t => k_is); (case y1k => k_is); (case y1i => k_is); (case y1f => k_is); (case y1l => k_is); (case y1c => k_is); (case y1p => k_is); (case y1a => k_is); (case y1b => k_is); (case y1n_word => k_is); (case y2g => k_is); (case y2o => kx_is); (case y2m => kx_is); (case y2h => k_is); (case y2s => k_is); (case y2x => k_is); (case y2t => k_is); (case y2k => k_is); (case y2i => k_is); (case y2f => k_is); (case y2l => k_is); (case y2c => k_is); (case y2p => k_is); (case y2a => k_is); (case y2b => k_is); (case y2n_word => k_is); (case y3g => k_is); (case y3o => kx_is); (case y3m => kx_is); (case y3h => k_is); (case y3s => k_is); (case y3x => k_is); (case y3t => k_is); (case y3k => k_is); (case y3i => k_is); (case y3f => k_is); (case y3l => k_is); (case y3c => k_is); (case y3p => k_is); (case y3a => k_is); (case y3b => k_is); (case y3n_word => k_is); (case y4g => k_is); (case y4o => kx_is); (case y4m => kx_is); (case y4h => k_is); (case y4s => k_is); (case y4x => k_is); (case y4t => k_is); (case y4k => k_is); (case y4i => k_is); (case y4f => k_is); (case y4l => k_is); (case y4c => k_is); (case y4p => k_is); (case y4a => k_is); (case y4b => k_is); (case y4n_word => k_is); (case y5g => k_is); (case y5o => kx_is); (case y5m => kx_is); (case y5h => k_is); (case y5s => k_is); (case y5x => k_is); (case y5t => k_is); (case y5k => k_is); (case y5i => k_is); (case y5f => k_is); (case y5l => k_is); (case y5c => k_is); (case y5p => k_is); (case y5a => k_is); (case y5b => k_is); (case y5n_word => k_is); (case y6g => k_is); (case y6o => kx_is); (case y6m => kx_is); (case y6h => k_is); (case y6s => k_is); (case y6x => k_is); (case y6t => k_is); (case y6k => k_is); (case y6i => k_is); (case y6f => k_is); (case y6l => k_is); (case y6c => k_is); (case y6p => k_is); (case y6a => k_is); (case y6b => k_is); (case y6n_word => k_is); (case e0 => k_is); (case e1 => k_is); (case e2 => k_is); (case e3 => k_is); (case e4 => k_is); (case e5 => k_is); (case z0 => k_is); (case z1 => k_is); (case z2 => k_is); (case z3 => k_is); (case z4 => k_is); (case z5 => k_is); (case z6 => k_is); (case z7 => k_is); (case z8 => k_is); (case z9 => k_is); (case z10 => k_is); (case z11 => k_is); (case z12 => k_is); (case z13 => k_is); (case kc0 => k_is)
