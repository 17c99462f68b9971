import PyProof.Rows.All
import Wide.All
import OpenK.AllK
import Wide.FinOn
import HandS.ForMost
import HandS.ForExc
import HandS.Wide
import HandS.IsInst
import HandS.Evl
import HandS.Defaults
import HandS.TupAny
import HandS.Zip
import HandS.Style
import HandS.ExcInit
import HandS.ExcField
import KE.KExcInit
import HandS.CallSlots
import HandS.ExcIs
import KE.KExcLine
import KE.KUnpackStar
import HandS.SortKw
import KE.GoesEnum
import KE.KUnpack
import HandS.Lambda
import KE.KDictKeyed
import KE.KDictWalk
import HandS.DictComp
import KE.SortData
import KE.KDictSum
import HandS.Conv
import PyProof.Transfer
import HandS.Deep
import KE.KExcIs
import KE.KIsAll
import HandS.TupSets
import HandS.IterVal
import HandS.More
import HandS.Text
import HandS.FStr
import HandS.EndTab
import KE.KNestM
import PySem.Challenge.RW_umbrage_k07_spots_in_order
def Qt (p : Prop) : Prop := p
theorem qt_eq (p : Prop) (h : p) : Qt p = True := eq_true h
theorem qt_of {p : Prop} (h : Qt p) : p := h
set_option Elab.async false
set_option linter.all false
set_option maxRecDepth 100000
set_option maxHeartbeats 4000000
namespace U
open PySem PySem.W PyProof.Rows
set_option maxHeartbeats 0 in
open_top head_top for PySem.Challenge.rw_umbrage_k07_spots_in_order
end U
section
/-! The data layer: slots hold data, lists of one's own, or the bag of draws; readings evaluate to data. -/
namespace U
open PySem L2 Evl
noncomputable abbrev Fg := PySem.W.Frag
noncomputable abbrev Hp := L2.Hp
noncomputable abbrev St := L2.St
open Classical in
noncomputable def less (H : Hp) (Z : Addr → Prop) : Hp := fun a => if Z a then none else H a
theorem less_no {H : Hp} {Z : Addr → Prop} {a : Addr} (h : ¬ Z a) : less H Z a = H a := if_neg h
theorem less_yes {H : Hp} {Z : Addr → Prop} {a : Addr} (h : Z a) : less H Z a = none := if_pos h
theorem less_some {H : Hp} {Z : Addr → Prop} {a : Addr} {o : HO} (h : less H Z a = some o) : ¬ Z a ∧ H a = some o := by
  by_cases z : Z a
  · rw [less_yes z] at h; cases h
  · rw [less_no z] at h; exact ⟨z, h⟩
theorem less_of {H : Hp} {Z : Addr → Prop} {a : Addr} {o : HO} (z : ¬ Z a) (h : H a = some o) : less H Z a = some o := (less_no z).trans h
theorem less_ex {H : Hp} {Z : Addr → Prop} : Ex (less H Z) H := fun _ _ h => (less_some h).2
theorem less_mono {H H' : Hp} {Z : Addr → Prop} (e : Ex H H') : Ex (less H Z) (less H' Z) := fun a o h => less_of (less_some h).1 (e a o (less_some h).2)
theorem less_sub {H : Hp} {Z Z' : Addr → Prop} (e : ∀ a, Z' a → Z a) : Ex (less H Z) (less H Z') := fun a o h => less_of (fun z => (less_some h).1 (e a z)) (less_some h).2
theorem less_but {H H' : Hp} {Z : Addr → Prop} (e : ∀ a o, H a = some o → ¬ Z a → H' a = some o) : Ex (less H Z) (less H' Z) := fun a o h => less_of (less_some h).1 (e a o (less_some h).2 (less_some h).1)

mutual
theorem dp_mono {K : Fg} {H H' : Hp} (e : Ex H H') : ∀ {d : PyData} {v : V}, Dp K H v d → Dp K H' v d
  | _, _, .non => .non
  | _, _, .bl b => .bl b
  | _, _, .int i => .int i
  | _, _, .str x => .str x
  | _, _, .lst h t => .lst (ex_l e h) (dpa_mono e t)
  | _, _, .tup h t => .tup (ex_t e h) (dpa_mono e t)
theorem dpa_mono {K : Fg} {H H' : Hp} (e : Ex H H') : ∀ {ds : List PyData} {vs : List V}, DpAll K H vs ds → DpAll K H' vs ds
  | _, _, .nil => .nil
  | _, _, .cons h t => .cons (dp_mono e h) (dpa_mono e t)
end
theorem dpa_len {K : Fg} {H : Hp} : ∀ {ds : List PyData} {vs : List V}, DpAll K H vs ds → vs.length = ds.length
  | _, _, .nil => rfl
  | _, _, .cons _ t => congrArg (· + 1) (dpa_len t)
theorem dpa_get {K : Fg} {H : Hp} : ∀ {ds : List PyData} {vs : List V} {i : Nat} {d : PyData}, DpAll K H vs ds → ds[i]? = some d → ∃ v, vs[i]? = some v ∧ Dp K H v d
  | _, _, _, _, .nil, e => by simp at e
  | _, _, 0, _, .cons h _, e => by
    have e := Option.some.inj e
    subst e
    exact ⟨_, rfl, h⟩
  | _, _, i + 1, _, .cons _ t, e => dpa_get (i := i) t e
theorem dpa_app {K : Fg} {H : Hp} : ∀ {ds es : List PyData} {vs us : List V}, DpAll K H vs ds → DpAll K H us es → DpAll K H (vs ++ us) (ds ++ es)
  | _, _, _, _, .nil, h => h
  | _, _, _, _, .cons h t, u => .cons h (dpa_app t u)

/-- the bag of draws: its cells, how often it was drawn, its number -/
structure Bag where
  cs : List Int
  i : Int
  j : Int
noncomputable def Bag.ok (s : Bag) : Prop := s.cs.length ≤ 63 ∧ 0 ≤ s.j ∧ s.j < 2147483647
noncomputable def BagAt (H : Hp) (B : Option (Addr × Addr)) (s : Bag) : Prop := match B with
  | some (b, c) => H b = some (.lst [.ref c, .int s.i, .int s.j]) ∧ H c = some (.lst (s.cs.map V.int)) ∧ s.ok
  | none => True
noncomputable def InB (B : Option (Addr × Addr)) (a : Addr) : Prop := ∃ b c, B = some (b, c) ∧ (a = b ∨ a = c)
inductive En where
  | un
  | d (x : PyData)
  | own (xs : List PyData)
  | bag
noncomputable abbrev Gam := List En
noncomputable def Zs (W : Addr → Prop) (B : Option (Addr × Addr)) (ad : Nat → Addr) (G : Gam) : Addr → Prop := fun a => W a ∨ (∃ i xs, G[i]? = some (.own xs) ∧ a = ad i) ∨ InB B a
noncomputable def Slot (K : Fg) (B : Option (Addr × Addr)) (ad : Nat → Addr) (H : Hp) (Z : Addr → Prop) (i : Nat) (o : Option V) : En → Prop
  | .un => True
  | .d x => ∃ v, o = some v ∧ Dp K (less H Z) v x
  | .own xs => o = some (.ref (ad i)) ∧ ∃ vs, H (ad i) = some (.lst vs) ∧ DpAll K (less H Z) vs xs
  | .bag => ∃ b c, B = some (b, c) ∧ o = some (.ref b)
/-- the state of a def's frame: slots, heap, bag, against the heap H0 at its entry -/
structure Sta (K : Fg) (W : Addr → Prop) (B : Option (Addr × Addr)) (ad : Nat → Addr) (H0 H : Hp) (σ : St) (G : Gam) (s : Bag) : Prop where
  len : σ.length = G.length
  at_ : ∀ i e, G[i]? = some e → ∃ o, σ[i]? = some o ∧ Slot K B ad H (Zs W B ad G) i o e
  inj : ∀ i j xs ys, G[i]? = some (.own xs) → G[j]? = some (.own ys) → ad i = ad j → i = j
  sep : ∀ i xs, G[i]? = some (.own xs) → H0 (ad i) = none ∧ ¬ InB B (ad i) ∧ ¬ W (ad i)
  base : ∀ a o, H0 a = some o → ¬ InB B a → H a = some o
  bag : BagAt H B s
  wd : ∀ a, W a → ∃ o, H a = some o
noncomputable def swp (ad : Nat → Addr) (i : Nat) (p : Addr) : Nat → Addr := fun j => if j = i then p else ad j
theorem swp_same {ad : Nat → Addr} {i : Nat} {p : Addr} : swp ad i p i = p := if_pos rfl
theorem swp_ne {ad : Nat → Addr} {i j : Nat} {p : Addr} (h : i ≠ j) : swp ad i p j = ad j := if_neg fun z => h z.symm
section
variable {K : Fg} {W : Addr → Prop} {B : Option (Addr × Addr)} {ad : Nat → Addr} {H0 H H2 : Hp} {σ : St} {G G' : Gam} {s s' : Bag}
theorem Slot.mono {Z Z' : Addr → Prop} {i : Nat} {o : Option V} {e : En} (h : Slot K B ad H Z i o e) (x : Ex (less H Z) (less H2 Z')) (y : ∀ xs vs, e = .own xs → H (ad i) = some (.lst vs) → H2 (ad i) = some (.lst vs)) : Slot K B ad H2 Z' i o e := by
  cases e with
  | un => trivial
  | d d => obtain ⟨v, e, h⟩ := h; exact ⟨v, e, dp_mono x h⟩
  | own xs => obtain ⟨e, vs, h1, h2⟩ := h; exact ⟨e, vs, y xs vs rfl h1, dpa_mono x h2⟩
  | bag => exact h
theorem upd_there {H : Hp} {p a : Addr} {o u : HO} (h : H a = some o) : ∃ o', upd H p u a = some o' := by
  by_cases z : a = p
  · exact ⟨u, by rw [z]; exact upd_same⟩
  · exact ⟨o, by rw [upd_ne z]; exact h⟩
/-- everything stays -/
theorem Sta.ext (S : Sta K W B ad H0 H σ G s) (e : Ex H H2) : Sta K W B ad H0 H2 σ G s where
  len := S.len
  at_ := fun i en h => by
    obtain ⟨o, h1, h2⟩ := S.at_ i en h
    exact ⟨o, h1, h2.mono (less_mono e) fun _ _ _ q => e _ _ q⟩
  inj := S.inj
  sep := S.sep
  base := fun a o h n => e _ _ (S.base a o h n)
  bag := by
    have h := S.bag
    unfold BagAt at h ⊢
    split
    · exact ⟨e _ _ h.1, e _ _ h.2.1, h.2.2⟩
    · trivial
  wd := fun a z => by
    obtain ⟨o, h⟩ := S.wd a z
    exact ⟨o, e _ _ h⟩
/-- all but the bag stays -/
theorem Sta.drawn (S : Sta K W B ad H0 H σ G s) (e : ∀ a o, H a = some o → ¬ InB B a → H2 a = some o) (b : BagAt H2 B s') : Sta K W B ad H0 H2 σ G s' where
  len := S.len
  at_ := fun i en h => by
    obtain ⟨o, h1, h2⟩ := S.at_ i en h
    refine ⟨o, h1, h2.mono (less_but fun a o q z => e a o q fun y => z (.inr (.inr y))) fun xs vs q q2 => ?_⟩
    subst q
    exact e _ _ q2 (S.sep i xs h).2.1
  inj := S.inj
  sep := S.sep
  base := fun a o h n => e a o (S.base a o h n) n
  bag := b
  wd := fun a z => by
    by_cases hb : InB B a
    · obtain ⟨b1, c1, rfl, hb⟩ := hb
      rcases hb with rfl | rfl
      · exact ⟨_, b.1⟩
      · exact ⟨_, b.2.1⟩
    · obtain ⟨o, h⟩ := S.wd a z
      exact ⟨o, e _ _ h hb⟩
theorem Zs.set_of {i : Nat} {e : En} (he : ∀ xs, e ≠ .own xs) {a : Addr} (h : Zs W B ad (G.set i e) a) : Zs W B ad G a := qt_of (by simp (disch := with_unfolding_all
  rcases h with h | ⟨j, xs, h, r⟩ | h
  · exact .inl h
  · by_cases z : i = j
    · subst z
      by_cases l : i < G.length
      · rw [List.getElem?_set_self l] at h
        exact absurd (Option.some.inj h) (he xs)
      · rw [List.getElem?_eq_none (by rw [List.length_set]; omega)] at h; cases h
    · rw [List.getElem?_set_ne z] at h
      exact .inr (.inl ⟨j, xs, h, r⟩)
  · exact .inr (.inr h)
  ) only [↓qt_eq])
theorem get_set {α : Type} {l : List α} {i j : Nat} {x y : α} (h : (l.set i x)[j]? = some y) : (i = j ∧ i < l.length ∧ x = y) ∨ (i ≠ j ∧ l[j]? = some y) := qt_of (by simp (disch := with_unfolding_all
  by_cases z : i = j
  · subst z
    by_cases q : i < l.length
    · rw [List.getElem?_set_self q] at h
      exact .inl ⟨rfl, q, Option.some.inj h⟩
    · rw [List.getElem?_eq_none (by rw [List.length_set]; omega)] at h; cases h
  · rw [List.getElem?_set_ne z] at h
    exact .inr ⟨z, h⟩
  ) only [↓qt_eq])
/-- a slot gets a thing that is no list of one's own -/
theorem Sta.set (S : Sta K W B ad H0 H σ G s) {i : Nat} {e : En} {o : Option V} (he : ∀ xs, e ≠ .own xs) (h : Slot K B ad H (Zs W B ad G) i o e) : Sta K W B ad H0 H (σ.set i o) (G.set i e) s where
  len := by rw [List.length_set, List.length_set]; exact S.len
  at_ := fun j en g => by
    rcases get_set g with ⟨rfl, l, rfl⟩ | ⟨z, g⟩
    · refine ⟨o, List.getElem?_set_self (by rw [S.len]; exact l), h.mono (less_sub fun a q => Zs.set_of he q) fun _ _ _ q => q⟩
    · obtain ⟨o', h1, h2⟩ := S.at_ j en g
      exact ⟨o', by rw [List.getElem?_set_ne z]; exact h1, h2.mono (less_sub fun a q => Zs.set_of he q) fun _ _ _ q => q⟩
  inj := fun j k xs ys g g' q => by
    rcases get_set g with ⟨rfl, l, e⟩ | ⟨z, g⟩
    · exact absurd e (he xs)
    · rcases get_set g' with ⟨rfl, l, e⟩ | ⟨z', g'⟩
      · exact absurd e (he ys)
      · exact S.inj j k xs ys g g' q
  sep := fun j xs g => by
    rcases get_set g with ⟨rfl, l, e⟩ | ⟨z, g⟩
    · exact absurd e (he xs)
    · exact S.sep j xs g
  base := S.base
  bag := S.bag
  wd := S.wd
theorem Sta.setD (S : Sta K W B ad H0 H σ G s) {i : Nat} {v : V} {x : PyData} (h : Dp K (less H (Zs W B ad G)) v x) : Sta K W B ad H0 H (σ.set i (some v)) (G.set i (.d x)) s :=
  S.set (fun _ z => by cases z) ⟨v, rfl, h⟩
theorem Sta.fresh (S : Sta K W B ad H0 H σ G s) {p : Addr} (h : H p = none) : H0 p = none ∧ ¬ InB B p := qt_of (by simp (disch := with_unfolding_all
  have hB : ¬ InB B p := by
    rintro ⟨b, c, rfl, z⟩
    have q := S.bag
    unfold BagAt at q
    rcases z with rfl | rfl
    · rw [q.1] at h; cases h
    · rw [q.2.1] at h; cases h
  refine ⟨?_, hB⟩
  cases e : H0 p with
  | none => rfl
  | some o => rw [S.base p o e hB] at h; cases h
  ) only [↓qt_eq])
/-- a thing of another's, which is new to this def, is changed -/
theorem Sta.foreign (S : Sta K W B ad H0 H σ G s) {p : Addr} {o : HO} (hw : W p) (h0 : H0 p = none) (hB : ¬ InB B p) : Sta K W B ad H0 (upd H p o) σ G s ∧ less (upd H p o) (Zs W B ad G) = less H (Zs W B ad G) := qt_of (by simp (disch := with_unfolding_all
  have el : less (upd H p o) (Zs W B ad G) = less H (Zs W B ad G) := by
    funext a
    by_cases z : Zs W B ad G a
    · rw [less_yes z, less_yes z]
    · rw [less_no z, less_no z, upd_ne (fun e => z (.inl (by rw [e]; exact hw)))]
  refine ⟨⟨S.len, fun i e h => ?_, S.inj, S.sep, fun a u q n => ?_, ?_, fun a z => (S.wd a z).elim fun o q => upd_there q⟩, el⟩
  · obtain ⟨u, g1, g2⟩ := S.at_ i e h
    refine ⟨u, g1, g2.mono (by rw [el]; exact Ex.refl _) fun xs vs q q2 => ?_⟩
    subst q
    rw [upd_ne (fun z => (S.sep i xs h).2.2 (by rw [z]; exact hw))]; exact q2
  · rw [upd_ne (fun z => by rw [z, h0] at q; cases q)]; exact S.base a u q n
  · have hg := S.bag
    rcases B with _ | ⟨b, c⟩
    · trivial
    · have h : H b = _ ∧ _ := hg
      refine ⟨?_, ?_, h.2.2⟩
      · rw [upd_ne (fun z => hB ⟨b, c, rfl, .inl z.symm⟩)]; exact h.1
      · rw [upd_ne (fun z => hB ⟨b, c, rfl, .inr z.symm⟩)]; exact h.2.1
  ) only [↓qt_eq])
/-- a new thing is for a while another's -/
theorem Sta.lend (S : Sta K W B ad H0 H σ G s) {p : Addr} {o : HO} (hp : H p = none) : Sta K (fun a => W a ∨ a = p) B ad H0 (upd H p o) σ G s ∧ less (upd H p o) (Zs (fun a => W a ∨ a = p) B ad G) = less H (Zs W B ad G) := qt_of (by simp (disch := with_unfolding_all
  have np : ¬ Zs W B ad G p := by
    rintro (z | ⟨i, xs, g, r⟩ | z)
    · obtain ⟨o, z⟩ := S.wd _ z
      rw [hp] at z; cases z
    · obtain ⟨_, _, _, vs, h1, _⟩ := S.at_ i _ g
      rw [← r, hp] at h1; cases h1
    · obtain ⟨b, c, rfl, z⟩ := z
      rcases z with rfl | rfl
      · rw [S.bag.1] at hp; cases hp
      · rw [S.bag.2.1] at hp; cases hp
  have zz : ∀ a, Zs (fun a => W a ∨ a = p) B ad G a ↔ Zs W B ad G a ∨ a = p := fun a => by
    constructor
    · rintro ((z | z) | z | z)
      · exact .inl (.inl z)
      · exact .inr z
      · exact .inl (.inr (.inl z))
      · exact .inl (.inr (.inr z))
    · rintro ((z | z | z) | z)
      · exact .inl (.inl z)
      · exact .inr (.inl z)
      · exact .inr (.inr z)
      · exact .inl (.inr z)
  have el : less (upd H p o) (Zs (fun a => W a ∨ a = p) B ad G) = less H (Zs W B ad G) := by
    funext a
    by_cases e : a = p
    · rw [less_yes ((zz a).mpr (.inr e)), e, less_no np, hp]
    · by_cases z : Zs W B ad G a
      · rw [less_yes z, less_yes ((zz a).mpr (.inl z))]
      · rw [less_no z, less_no (fun y => ((zz a).mp y).elim z e), upd_ne e]
  have ex : Ex H (upd H p o) := Ex.new hp
  have S' := S.ext ex
  refine ⟨⟨S.len, fun i e h => ?_, S.inj, fun i xs h => ⟨(S.sep i xs h).1, (S.sep i xs h).2.1, fun z => z.elim (S.sep i xs h).2.2 fun z => np (by rw [← z]; exact .inr (.inl ⟨i, xs, h, rfl⟩))⟩, S'.base, S'.bag, fun a z => z.elim (fun z => S'.wd a z) fun z => ⟨o, by rw [z]; exact upd_same⟩⟩, el⟩
  obtain ⟨u, g1, g2⟩ := S.at_ i e h
  exact ⟨u, g1, g2.mono (by rw [el]; exact Ex.refl _) fun xs vs q q2 => ex _ _ q2⟩
  ) only [↓qt_eq])
/-- .. and is given back -/
theorem Sta.back {p : Addr} (S : Sta K (fun a => W a ∨ a = p) B ad H0 H σ G s) : Sta K W B ad H0 H σ G s ∧ Ex (less H (Zs (fun a => W a ∨ a = p) B ad G)) (less H (Zs W B ad G)) := qt_of (by simp (disch := with_unfolding_all
  have ex : Ex (less H (Zs (fun a => W a ∨ a = p) B ad G)) (less H (Zs W B ad G)) := less_sub fun a z => z.elim (fun z => .inl (.inl z)) .inr
  refine ⟨⟨S.len, fun i e h => ?_, S.inj, fun i xs h => ⟨(S.sep i xs h).1, (S.sep i xs h).2.1, fun z => (S.sep i xs h).2.2 (.inl z)⟩, S.base, S.bag, fun a z => S.wd a (.inl z)⟩, ex⟩
  obtain ⟨u, g1, g2⟩ := S.at_ i e h
  exact ⟨u, g1, g2.mono ex fun _ _ _ q => q⟩
  ) only [↓qt_eq])
end
end U

end
section
namespace U
open PySem L2 Evl
/-- all but the bag stays -/
noncomputable def Xb (B : Option (Addr × Addr)) (H H2 : Hp) : Prop := ∀ a o, H a = some o → ¬ InB B a → H2 a = some o
theorem Xb.refl {B : Option (Addr × Addr)} {H : Hp} : Xb B H H := fun _ _ h _ => h
theorem Xb.trans {B : Option (Addr × Addr)} {H H1 H2 : Hp} (a : Xb B H H1) (b : Xb B H1 H2) : Xb B H H2 := fun p o h n => b p o (a p o h n) n
theorem Xb.l {B : Option (Addr × Addr)} {H H2 : Hp} (a : Xb B H H2) {W : Addr → Prop} {ad : Nat → Addr} {G : Gam} : Ex (less H (Zs W B ad G)) (less H2 (Zs W B ad G)) := less_but fun p o h n => a p o h fun z => n (.inr (.inr z))
theorem Xb.of {B : Option (Addr × Addr)} {H H2 : Hp} (e : Ex H H2) : Xb B H H2 := fun p o h _ => e p o h
/-! ### what a reading evaluates to -/
noncomputable def EvG (K : Fg) (te : TE) (G : Gam) (s : Bag) (x : PyData) (s' : Bag) : Prop :=
  ∀ W B ad H0 H σ, Sta K W B ad H0 H σ G s → ∀ Q : VK, (∀ v H2, Sta K W B ad H0 H2 σ G s' → Xb B H H2 → Dp K (less H2 (Zs W B ad G)) v x → Q v H2) → te σ H Q
noncomputable def EvT (K : Fg) (tt : TT) (G : Gam) (s : Bag) (b : Bool) (s' : Bag) : Prop :=
  ∀ W B ad H0 H σ, Sta K W B ad H0 H σ G s → ∀ Q : Bool → Hp → Prop, (∀ H2, Sta K W B ad H0 H2 σ G s' → Xb B H H2 → Q b H2) → tt σ H Q
noncomputable def EvA (K : Fg) (ta : TA) (G : Gam) (s : Bag) (xs : List PyData) (s' : Bag) : Prop :=
  ∀ W B ad H0 H σ, Sta K W B ad H0 H σ G s → ∀ Q : List V → Hp → Prop, (∀ vs H2, Sta K W B ad H0 H2 σ G s' → Xb B H H2 → DpAll K (less H2 (Zs W B ad G)) vs xs → Q vs H2) → ta σ H Q
/-- a new list as a value of its own (not yet data) is not spoken of: lists are data once made -/
inductive Out where
  | nx (G : Gam) (s : Bag)
  | rt (x : PyData) (s : Bag)
  | bk (G : Gam) (s : Bag)
  | ct (G : Gam) (s : Bag)
noncomputable def Post (K : Fg) (W : Addr → Prop) (B : Option (Addr × Addr)) (H0 M : Hp) (D : Ends) : Out → Prop
  | .nx G s => ∀ ad H σ, Sta K W B ad H0 H σ G s → Ex M (less H (Zs W B ad G)) → D.nx σ H
  | .rt x s => ∀ v H, (∀ a o, H0 a = some o → ¬ InB B a → H a = some o) → BagAt H B s → Dp K (less H fun a => W a ∨ InB B a) v x → D.rt v H
  | .bk G s => ∀ ad H σ, Sta K W B ad H0 H σ G s → Ex M (less H (Zs W B ad G)) → D.bk σ H
  | .ct G s => ∀ ad H σ, Sta K W B ad H0 H σ G s → Ex M (less H (Zs W B ad G)) → D.ct σ H
noncomputable def SG (K : Fg) (ts : TS) (G : Gam) (s : Bag) (o : Out) : Prop :=
  ∀ W B ad H0 H σ (D : Ends), Sta K W B ad H0 H σ G s → Post K W B H0 (less H (Zs W B ad G)) D o → ts D σ H

section
variable {K : Fg} {G G1 G2 : Gam} {s s1 s2 s3 s' : Bag} {ta tb tc te : TE} {t u : TT} {x y z : PyData}
/-! ### values -/
theorem ev_is {x'} (h : EvG K te G s x s') (e : x = x') : EvG K te G s x' s' := e ▸ h
theorem et_is {b b' : Bool} (h : EvT K t G s b s') (e : b = b') : EvT K t G s b' s' := e ▸ h
theorem ev_var {i : Nat} (h : G[i]? = some (.d x)) : EvG K (tVar i) G s x s := fun W B ad H0 H σ S Q q => by
  obtain ⟨o, h1, v, rfl, h2⟩ := S.at_ i _ h
  exact ⟨v, h1, q v H S (Xb.refl) h2⟩
theorem ev_int {i : Int} : EvG K (tC (.int i)) G s (.int i) s := fun W B ad H0 H σ S Q q => q _ H S (Xb.refl) (.int i)
/-! ### argument lists and displays -/
theorem ea_nil : EvA K tNil G s [] s := fun W B ad H0 H σ S Q q => q _ H S (Xb.refl) .nil
theorem ea_cons {tr : TA} {xs : List PyData} (h : EvG K ta G s x s1) (hr : EvA K tr G s1 xs s2) : EvA K (tCons ta tr) G s (x :: xs) s2 := fun W B ad H0 H σ S Q q =>
  h W B ad H0 H σ S _ fun v H1 S1 e1 d1 => hr W B ad H0 H1 σ S1 _ fun vs H2 S2 e2 d2 => q _ H2 S2 (e1.trans e2) (.cons (dp_mono e2.l d1) d2)
theorem new_ex {W : Addr → Prop} {B : Option (Addr × Addr)} {ad : Nat → Addr} {H0 H : Hp} {σ : St} (S : Sta K W B ad H0 H σ G s) {p : Addr} {o : HO} (h : H p = none) :
    Sta K W B ad H0 (upd H p o) σ G s ∧ Xb B H (upd H p o) ∧ less (upd H p o) (Zs W B ad G) p = some o := qt_of (by simp (disch := with_unfolding_all
  have e : Ex H (upd H p o) := Ex.new h
  refine ⟨S.ext e, .of e, less_of ?_ upd_same⟩
  rintro (z | ⟨i, xs, g, r⟩ | z)
  · obtain ⟨o, z⟩ := S.wd _ z
    rw [h] at z; cases z
  · obtain ⟨_, _, _, vs, h1, _⟩ := S.at_ i _ g
    rw [← r, h] at h1; cases h1
  · exact (S.fresh h).2 z
  ) only [↓qt_eq])
theorem sz_line {n : Nat} (h : n ≤ 16000000) : n ≤ sizeLine := Nat.le_trans h (by decide)
theorem ev_tup {ta : TA} {xs : List PyData} (h : EvA K ta G s xs s') (hl : xs.length ≤ 16000000) : EvG K (tTup ta) G s (.tuple xs) s' := fun W B ad H0 H σ S Q q =>
  h W B ad H0 H σ S _ fun vs H1 S1 e1 d1 => ⟨by rw [dpa_len d1]; exact sz_line hl, fun p hp => by
    obtain ⟨S2, e2, g⟩ := new_ex (o := .tup vs) S1 hp
    exact q _ _ S2 (e1.trans e2) (.tup (st_of g) (dpa_mono e2.l d1))⟩
theorem ev_lst {ta : TA} {xs : List PyData} (h : EvA K ta G s xs s') (hl : xs.length ≤ 16000000) : EvG K (tLst ta) G s (.list xs) s' := fun W B ad H0 H σ S Q q =>
  h W B ad H0 H σ S _ fun vs H1 S1 e1 d1 => ⟨by rw [dpa_len d1]; exact sz_line hl, fun p hp => by
    obtain ⟨S2, e2, g⟩ := new_ex (o := .lst vs) S1 hp
    exact q _ _ S2 (e1.trans e2) (.lst (sq_of g) (dpa_mono e2.l d1))⟩
/-! ### operators -/
theorem ev_I0 {g : Int → Int → V} {f : Int → Int → PyData} {i j : Int} (ha : EvG K ta G s (.int i) s1) (hb : EvG K tb G s1 (.int j) s2) (hg : ∀ H, Dp K H (g i j) (f i j)) : EvG K (tOp (rI0 g) ta tb) G s (f i j) s2 := fun W B ad H0 H σ S Q q =>
  ha W B ad H0 H σ S _ fun v H1 S1 e1 d1 => hb W B ad H0 H1 σ S1 _ fun w H2 S2 e2 d2 => by
    cases d1; cases d2
    exact ⟨i, j, rfl, rfl, q _ H2 S2 (e1.trans e2) (hg _)⟩
theorem ev_I {C : Int → Int → Prop} {g : Int → Int → V} {f : Int → Int → PyData} {i j : Int} (ha : EvG K ta G s (.int i) s1) (hb : EvG K tb G s1 (.int j) s2) (hc : C i j) (hg : ∀ H, Dp K H (g i j) (f i j)) : EvG K (tOp (rI C g) ta tb) G s (f i j) s2 := fun W B ad H0 H σ S Q q =>
  ha W B ad H0 H σ S _ fun v H1 S1 e1 d1 => hb W B ad H0 H1 σ S1 _ fun w H2 S2 e2 d2 => by
    cases d1; cases d2
    exact ⟨i, j, rfl, rfl, hc, q _ H2 S2 (e1.trans e2) (hg _)⟩
theorem ev_add {i j : Int} (ha : EvG K ta G s (.int i) s1) (hb : EvG K tb G s1 (.int j) s2) : EvG K (tOp (rI0 fun i j => .int (i + j)) ta tb) G s (.int (i + j)) s2 := ev_I0 (f := fun i j => .int (i + j)) ha hb fun _ => .int _
theorem ev_sub {i j : Int} (ha : EvG K ta G s (.int i) s1) (hb : EvG K tb G s1 (.int j) s2) : EvG K (tOp (rI0 fun i j => .int (i - j)) ta tb) G s (.int (i - j)) s2 := ev_I0 (f := fun i j => .int (i - j)) ha hb fun _ => .int _
theorem ev_mul {i j : Int} (ha : EvG K ta G s (.int i) s1) (hb : EvG K tb G s1 (.int j) s2) (hc : CMulW i j) : EvG K (tOp (rI CMulW fun i j => .int (i * j)) ta tb) G s (.int (i * j)) s2 := ev_I (f := fun i j => .int (i * j)) ha hb hc fun _ => .int _
/-- // by any divisor but 0, of less than 9000 bits -/
noncomputable def CDvX (_ j : Int) : Prop := j ≠ 0 ∧ j.natAbs.log2 < 9000
theorem op_fdivX {X : Cx} : OpR X (binaryOp .FloorDiv) (rI CDvX fun i j => .int (i.fdiv j)) := opI fun i j _ _ _ _ _ hc q => PyProof.Rows.floordiv_int hc.1 q (.inl (PyProof.noPylong_of_log2 hc.2))
theorem ev_fdiv {i j : Int} (ha : EvG K ta G s (.int i) s1) (hb : EvG K tb G s1 (.int j) s2) (hc : CDvX i j) : EvG K (tOp (rI CDvX fun i j => .int (i.fdiv j)) ta tb) G s (.int (i.fdiv j)) s2 := ev_I (f := fun i j => .int (i.fdiv j)) ha hb hc fun _ => .int _
noncomputable def CNz (_ j : Int) : Prop := j ≠ 0
theorem op_modX {X : Cx} : OpR X (binaryOp .Mod) (rI CNz fun i j => .int (i.fmod j)) := op_modN
theorem ev_mod {i j : Int} (ha : EvG K ta G s (.int i) s1) (hb : EvG K tb G s1 (.int j) s2) (hc : CNz i j) : EvG K (tOp (rI CNz fun i j => .int (i.fmod j)) ta tb) G s (.int (i.fmod j)) s2 := ev_I (f := fun i j => .int (i.fmod j)) ha hb hc fun _ => .int _
theorem ev_pow {i j : Int} (ha : EvG K ta G s (.int i) s1) (hb : EvG K tb G s1 (.int j) s2) (hc : CPow i j) : EvG K (tOp (rI CPow fun i j => .int (i ^ j.toNat)) ta tb) G s (.int (i ^ j.toNat)) s2 := ev_I (f := fun i j => .int (i ^ j.toNat)) ha hb hc fun _ => .int _
theorem ev_lt {i j : Int} (ha : EvG K ta G s (.int i) s1) (hb : EvG K tb G s1 (.int j) s2) : EvG K (tOp (rI0 fun i j => .bl (decide (i < j))) ta tb) G s (.bool (decide (i < j))) s2 := ev_I0 (f := fun i j => .bool (decide (i < j))) ha hb fun _ => .bl _
theorem ev_gt {i j : Int} (ha : EvG K ta G s (.int i) s1) (hb : EvG K tb G s1 (.int j) s2) : EvG K (tOp (rI0 fun i j => .bl (decide (j < i))) ta tb) G s (.bool (decide (j < i))) s2 := ev_I0 (f := fun i j => .bool (decide (j < i))) ha hb fun _ => .bl _
theorem ev_eqI {i j : Int} (ha : EvG K ta G s (.int i) s1) (hb : EvG K tb G s1 (.int j) s2) : EvG K (tOp rEq ta tb) G s (.bool (decide (i = j))) s2 := fun W B ad H0 H σ S Q q =>
  ha W B ad H0 H σ S _ fun v H1 S1 e1 d1 => hb W B ad H0 H1 σ S1 _ fun w H2 S2 e2 d2 => by
    cases d1; cases d2
    have e : decide (V.int i = V.int j) = decide (i = j) := by simp
    exact ⟨rfl, by rw [e]; exact q _ H2 S2 (e1.trans e2) (.bl _)⟩
theorem ev_neI {i j : Int} (ha : EvG K ta G s (.int i) s1) (hb : EvG K tb G s1 (.int j) s2) : EvG K (tOp rNe ta tb) G s (.bool (!decide (i = j))) s2 := fun W B ad H0 H σ S Q q =>
  ha W B ad H0 H σ S _ fun v H1 S1 e1 d1 => hb W B ad H0 H1 σ S1 _ fun w H2 S2 e2 d2 => by
    cases d1; cases d2
    have e : decide (V.int i = V.int j) = decide (i = j) := by simp
    exact ⟨rfl, by rw [e]; exact q _ H2 S2 (e1.trans e2) (.bl _)⟩
theorem ev_eqS {i j : Str} (ha : EvG K ta G s (.str i) s1) (hb : EvG K tb G s1 (.str j) s2) : EvG K (tOp rEq ta tb) G s (.bool (decide (i = j))) s2 := fun W B ad H0 H σ S Q q =>
  ha W B ad H0 H σ S _ fun v H1 S1 e1 d1 => hb W B ad H0 H1 σ S1 _ fun w H2 S2 e2 d2 => by
    cases d1; cases d2
    have e : decide (V.str i = V.str j) = decide (i = j) := by simp
    exact ⟨rfl, by rw [e]; exact q _ H2 S2 (e1.trans e2) (.bl _)⟩
theorem ev_eqB {i j : Bool} (ha : EvG K ta G s (.bool i) s1) (hb : EvG K tb G s1 (.bool j) s2) : EvG K (tOp rEq ta tb) G s (.bool (decide (i = j))) s2 := fun W B ad H0 H σ S Q q =>
  ha W B ad H0 H σ S _ fun v H1 S1 e1 d1 => hb W B ad H0 H1 σ S1 _ fun w H2 S2 e2 d2 => by
    cases d1; cases d2
    have e : decide (V.bl i = V.bl j) = decide (i = j) := by simp
    exact ⟨rfl, by rw [e]; exact q _ H2 S2 (e1.trans e2) (.bl _)⟩
theorem ev_neB {i j : Bool} (ha : EvG K ta G s (.bool i) s1) (hb : EvG K tb G s1 (.bool j) s2) : EvG K (tOp rNe ta tb) G s (.bool (!decide (i = j))) s2 := fun W B ad H0 H σ S Q q =>
  ha W B ad H0 H σ S _ fun v H1 S1 e1 d1 => hb W B ad H0 H1 σ S1 _ fun w H2 S2 e2 d2 => by
    cases d1; cases d2
    have e : decide (V.bl i = V.bl j) = decide (i = j) := by simp
    exact ⟨rfl, by rw [e]; exact q _ H2 S2 (e1.trans e2) (.bl _)⟩
theorem ev_neg {i : Int} (ha : EvG K ta G s (.int i) s') : EvG K (tUn (rU fun i => .int (-i)) ta) G s (.int (-i)) s' := fun W B ad H0 H σ S Q q =>
  ha W B ad H0 H σ S _ fun v H1 S1 e1 d1 => by
    cases d1
    exact ⟨i, rfl, q _ H1 S1 e1 (.int _)⟩
noncomputable def isNoneD : PyData → Bool
  | .none => true
  | _ => false
theorem dp_none {K : Fg} {H : Hp} {v : V} {x : PyData} (h : Dp K H v x) : decide (v = V.non) = isNoneD x := by
  cases h <;> simp [isNoneD]
theorem ev_isN (ha : EvG K ta G s x s') : EvG K (tOp (fun x y H Q => y = .non ∧ Q (.bl (decide (x = .non))) H) ta (tC .non)) G s (.bool (isNoneD x)) s' := fun W B ad H0 H σ S Q q =>
  ha W B ad H0 H σ S _ fun v H1 S1 e1 d1 => ⟨rfl, by rw [dp_none d1]; exact q _ H1 S1 e1 (.bl _)⟩
/-! ### items -/
theorem dpa_atI {K : Fg} {H : Hp} {ds : List PyData} {vs : List V} {i : Int} {d : PyData} (h : DpAll K H vs ds) (e : atI ds i = some d) : ∃ v, atI vs i = some v ∧ Dp K H v d := by
  unfold atI at e ⊢
  rw [dpa_len h]
  cases q : ixN ds.length i with
  | none => rw [q] at e; cases e
  | some j =>
    rw [q] at e
    exact dpa_get h e
theorem ev_ixT {xs : List PyData} {i : Int} (ha : EvG K ta G s (.tuple xs) s1) (hb : EvG K tb G s1 (.int i) s2) (he : atI xs i = some x) : EvG K (tOp (rIx K) ta tb) G s x s2 := fun W B ad H0 H σ S Q q =>
  ha W B ad H0 H σ S _ fun v H1 S1 e1 d1 => hb W B ad H0 H1 σ S1 _ fun w H2 S2 e2 d2 => by
    cases d2
    cases dp_mono e2.l d1 with
    | tup h t =>
      obtain ⟨v, g1, g2⟩ := dpa_atI t he
      exact .inr (.inl ⟨_, _, i, v, rfl, rfl, ex_t less_ex h, g1, q _ H2 S2 (e1.trans e2) g2⟩)
theorem ev_ixL {xs : List PyData} {i : Int} (ha : EvG K ta G s (.list xs) s1) (hb : EvG K tb G s1 (.int i) s2) (he : atI xs i = some x) : EvG K (tOp (rIx K) ta tb) G s x s2 := fun W B ad H0 H σ S Q q =>
  ha W B ad H0 H σ S _ fun v H1 S1 e1 d1 => hb W B ad H0 H1 σ S1 _ fun w H2 S2 e2 d2 => by
    cases d2
    cases dp_mono e2.l d1 with
    | lst h t =>
      obtain ⟨v, g1, g2⟩ := dpa_atI t he
      exact .inl ⟨_, _, i, v, rfl, rfl, ex_l less_ex h, g1, q _ H2 S2 (e1.trans e2) g2⟩
/-! ### tests -/
theorem et_test {b : Bool} (h : EvG K te G s (.bool b) s') : EvT K (tTest te) G s b s' := fun W B ad H0 H σ S Q q => h W B ad H0 H σ S _ fun v H1 S1 e1 d1 => by
  cases d1
  exact ⟨b, rfl, q H1 S1 e1⟩
theorem et_B {b : Bool} (h : EvG K te G s (.bool b) s') : EvT K (tB te) G s b s' := fun W B ad H0 H σ S Q q => h W B ad H0 H σ S _ fun v H1 S1 e1 d1 => by
  cases d1
  exact ⟨b, rfl, q H1 S1 e1⟩
theorem et_not {b : Bool} (h : EvT K t G s b s') : EvT K (tNot t) G s (!b) s' := fun W B ad H0 H σ S Q q => h W B ad H0 H σ S _ q
theorem et_orF {b : Bool} (h : EvT K t G s false s1) (h2 : EvT K u G s1 b s2) : EvT K (tOr t u) G s b s2 := fun W B ad H0 H σ S Q q => h W B ad H0 H σ S _ fun H1 S1 e1 => iteF (h2 W B ad H0 H1 σ S1 _ fun H2 S2 e2 => q H2 S2 (e1.trans e2))
theorem ev_andT (h : EvG K ta G s (.bool true) s1) (h2 : EvG K tb G s1 x s2) : EvG K (tAndV ta tb) G s x s2 := fun W B ad H0 H σ S Q q => h W B ad H0 H σ S _ fun v H1 S1 e1 d1 => by
  cases d1
  exact ⟨true, rfl, iteT (h2 W B ad H0 H1 σ S1 _ fun v H2 S2 e2 d2 => q v H2 S2 (e1.trans e2) d2)⟩
theorem ev_not {a : Bool} (h : EvG K ta G s (.bool a) s') : EvG K (tNotV ta) G s (.bool (!a)) s' := fun W B ad H0 H σ S Q q => h W B ad H0 H σ S _ fun v H1 S1 e1 d1 => by
  cases d1
  exact ⟨a, rfl, q _ H1 S1 e1 (.bl _)⟩
/-! ### what a def promises: of data; of the bag and data -/
noncomputable def spP (K : Fg) (P : List PyData → PyData → Prop) : Sp := fun vs H Q _ => ∃ (W : Addr → Prop) (ds : List PyData) (r : PyData), (∀ a, W a → ∃ o, H a = some o) ∧ DpAll K (less H W) vs ds ∧ P ds r ∧ ∀ v H', Ex H H' → Dp K (less H' W) v r → Q v H'
noncomputable def spB (K : Fg) (P : Bag → List PyData → PyData → Bag → Prop) : Sp := fun vs H Q _ => ∃ (W : Addr → Prop) (b c : Addr) (us : List V) (s : Bag) (ds : List PyData) (r : PyData) (s' : Bag), (∀ a, W a → ∃ o, H a = some o) ∧ vs = .ref b :: us ∧ BagAt H (some (b, c)) s ∧
  DpAll K (less H fun a => W a ∨ InB (some (b, c)) a) us ds ∧ P s ds r s' ∧ ∀ v H', (∀ a o, H a = some o → ¬ InB (some (b, c)) a → H' a = some o) → BagAt H' (some (b, c)) s' → Dp K (less H' fun a => W a ∨ InB (some (b, c)) a) v r → Q v H'
theorem bag_there {H : Hp} {B : Option (Addr × Addr)} {a : Addr} (h : BagAt H B s) (z : InB B a) : ∃ o, H a = some o := by
  obtain ⟨b, c, rfl, z⟩ := z
  rcases z with rfl | rfl
  · exact ⟨_, h.1⟩
  · exact ⟨_, h.2.1⟩
theorem Sta.there {W : Addr → Prop} {B : Option (Addr × Addr)} {ad : Nat → Addr} {H0 H : Hp} {σ : St} (S : Sta K W B ad H0 H σ G s) (a : Addr) (z : Zs W B ad G a) : ∃ o, H a = some o := by
  by_cases hb : InB B a
  · exact bag_there S.bag hb
  rcases z with z | ⟨i, xs, g, rfl⟩ | z
  · exact S.wd _ z
  · obtain ⟨_, _, _, vs, h1, _⟩ := S.at_ i _ g
    exact ⟨_, h1⟩
  · exact absurd z hb
theorem ev_call {P : List PyData → PyData → Prop} {ta : TA} {ds : List PyData} {dvs : List V} {des : List PyData} {E : XK} (h : EvA K ta G s ds s') (hd : ∀ H, DpAll K H dvs des) (hp : P (ds ++ des) x) : EvG K (tCall (spP K P) dvs E ta) G s x s' := fun W B ad H0 H σ S Q q =>
  h W B ad H0 H σ S _ fun vs H1 S1 e1 d1 => ⟨Zs W B ad G, ds ++ des, x, S1.there, dpa_app d1 (hd _), hp, fun v H' e d => q v H' (S1.ext e) (e1.trans (.of e)) d⟩
theorem ev_callB {P : Bag → List PyData → PyData → Bag → Prop} {tr : TA} {i : Nat} {ds : List PyData} {E : XK} (hi : G[i]? = some .bag) (h : EvA K tr G s ds s1) (hp : P s1 ds x s') : EvG K (tCall (spB K P) [] E (tCons (tVar i) tr)) G s x s' := fun W B ad H0 H σ S Q q => by
  obtain ⟨o, g1, b, c, rfl, rfl⟩ := S.at_ i _ hi
  refine ⟨_, g1, h W _ ad H0 H σ S _ fun vs H1 S1 e1 d1 => ?_⟩
  have zz : ∀ a, (((fun a => W a ∨ ∃ i xs, G[i]? = some (En.own xs) ∧ a = ad i) a) ∨ InB (some (b, c)) a) ↔ Zs W (some (b, c)) ad G a := fun a => or_assoc
  have zl : ∀ H : Hp, (less H fun a => (W a ∨ ∃ i xs, G[i]? = some (En.own xs) ∧ a = ad i) ∨ InB (some (b, c)) a) = less H (Zs W (some (b, c)) ad G) := fun H => congrArg (less H) (funext fun a => propext (zz a))
  refine ⟨fun a => W a ∨ ∃ i xs, G[i]? = some (En.own xs) ∧ a = ad i, b, c, vs, s1, ds, x, s', fun a z => S1.there a ((zz a).mp (.inl z)), ?_, S1.bag, ?_, hp, fun v H' e hb d => ?_⟩
  · rw [List.append_nil]
  · rw [zl]; exact d1
  · rw [zl] at d
    exact q v H' (S1.drawn e hb) (e1.trans e) d
end
end U

end
section
namespace U
open PySem L2 Evl
/-! ### built-ins, by name -/
noncomputable def rAbs : List V → Hp → VK → Prop := fun xs H Q => ∃ i, xs = [.int i] ∧ Q (.int (if i < 0 then -i else i)) H
noncomputable def rMx : List V → Hp → VK → Prop := fun xs H Q => ∃ i j, xs = [.int i, .int j] ∧ Q (.int (if j > i then j else i)) H
noncomputable def rInt1 : List V → Hp → VK → Prop := fun xs H Q => (∃ i, xs = [.int i] ∧ Q (.int i) H) ∨ ∃ k, xs = [.bl k] ∧ Q (.int (if k then 1 else 0)) H
noncomputable def rLenQ (K : Fg) : List V → Hp → VK → Prop := fun xs H Q => ∃ p ys, xs = [.ref p] ∧ (SqL K H p ys ∨ SqT K H p ys) ∧ Q (.int ys.length) H
noncomputable def rListQ (K : Fg) : List V → Hp → VK → Prop := fun xs H Q => ∃ p ys, xs = [.ref p] ∧ (SqL K H p ys ∨ SqT K H p ys) ∧ ∀ l, H l = none → Q (.ref l) (upd H l (.lst ys))
noncomputable def rTupQ (K : Fg) : List V → Hp → VK → Prop := fun xs H Q => ∃ p ys, xs = [.ref p] ∧ ((SqL K H p ys ∧ ∀ l, H l = none → Q (.ref l) (upd H l (.tup ys))) ∨ (SqT K H p ys ∧ Q (.ref p) H))
noncomputable def rIsNo : R2 := fun x y H Q => y = .non ∧ Q (.bl (decide (x = .non))) H
section
variable {X : Cx}
theorem c_abs : CallR X (.builtin "abs") rAbs := call_abs
theorem c_max2 (hc : X.calm = true) : CallR X (.builtin "max") rMx := call_max2 hc
theorem c_int1 : CallR X (.type "int") rInt1 := call_int1
theorem c_len : CallR X (.builtin "len") (rLenQ X.K) := call_len_seq
theorem c_list : CallR X (.type "list") (rListQ X.K) := call_list_of
theorem c_tuple : CallR X (.type "tuple") (rTupQ X.K) := call_tuple_of
theorem o_isN : OpR X (compareOp .Is) rIsNo := op_isN
end
section
variable {K : Fg} {G G1 G2 : Gam} {s s1 s2 s3 s' : Bag} {ta tb tc te : TE} {t u : TT} {x y z : PyData}
theorem ev_isNo (ha : EvG K ta G s x s') : EvG K (tOp rIsNo ta (tC .non)) G s (.bool (isNoneD x)) s' := ev_isN ha
/-- a call of a built-in upon data -/
theorem ev_cb {r : List V → Hp → VK → Prop} {ta : TA} {xs : List PyData} (h : EvA K ta G s xs s')
    (hr : ∀ W B ad H0 H σ vs, Sta K W B ad H0 H σ G s' → DpAll K (less H (Zs W B ad G)) vs xs → ∀ Q : VK, (∀ v H2, Sta K W B ad H0 H2 σ G s' → Xb B H H2 → Dp K (less H2 (Zs W B ad G)) v x → Q v H2) → r vs H Q) : EvG K (tCB r ta) G s x s' := fun W B ad H0 H σ S Q q =>
  h W B ad H0 H σ S _ fun vs H1 S1 e1 d1 => hr W B ad H0 H1 σ vs S1 d1 Q fun v H2 S2 e2 d2 => q v H2 S2 (e1.trans e2) d2
theorem dp1 {H : Hp} {vs : List V} {x : PyData} (h : DpAll K H vs [x]) : ∃ v, vs = [v] ∧ Dp K H v x := by
  cases h with
  | cons a b => cases b; exact ⟨_, rfl, a⟩
theorem dp2 {H : Hp} {vs : List V} {x y : PyData} (h : DpAll K H vs [x, y]) : ∃ v w, vs = [v, w] ∧ Dp K H v x ∧ Dp K H w y := by
  cases h with
  | cons a b => obtain ⟨w, rfl, c⟩ := dp1 b; exact ⟨_, w, rfl, a, c⟩
noncomputable def absI (i : Int) : Int := if i < 0 then -i else i
noncomputable def maxI (i j : Int) : Int := if j > i then j else i
theorem ev_abs {i : Int} (h : EvG K ta G s (.int i) s') : EvG K (tCB rAbs (tCons ta tNil)) G s (.int (absI i)) s' := ev_cb (ea_cons h ea_nil) fun W B ad H0 H σ vs S d Q q => by
  obtain ⟨v, rfl, d1⟩ := dp1 d
  cases d1
  exact ⟨i, rfl, q _ H S (Xb.refl) (.int _)⟩
theorem ev_max {i j : Int} (h : EvG K ta G s (.int i) s1) (h2 : EvG K tb G s1 (.int j) s') : EvG K (tCB rMx (tCons ta (tCons tb tNil))) G s (.int (maxI i j)) s' := ev_cb (ea_cons h (ea_cons h2 ea_nil)) fun W B ad H0 H σ vs S d Q q => by
  obtain ⟨v, w, rfl, d, d2⟩ := dp2 d
  cases d; cases d2
  exact ⟨i, j, rfl, q _ H S (Xb.refl) (.int _)⟩
theorem ev_intB {i : Bool} (h : EvG K ta G s (.bool i) s') : EvG K (tCB rInt1 (tCons ta tNil)) G s (.int (if i then 1 else 0)) s' := ev_cb (ea_cons h ea_nil) fun W B ad H0 H σ vs S d Q q => by
  obtain ⟨v, rfl, d1⟩ := dp1 d
  cases d1
  exact .inr ⟨i, rfl, q _ H S (Xb.refl) (.int _)⟩
theorem ev_lenT {xs : List PyData} (h : EvG K ta G s (.tuple xs) s') : EvG K (tCB (rLenQ K) (tCons ta tNil)) G s (.int xs.length) s' := ev_cb (ea_cons h ea_nil) fun W B ad H0 H σ vs S d Q q => by
  obtain ⟨v, rfl, d1⟩ := dp1 d
  cases d1 with
  | tup g t => exact ⟨_, _, rfl, .inr (ex_t less_ex g), by rw [dpa_len t]; exact q _ H S (Xb.refl) (.int _)⟩
theorem ev_lenL {xs : List PyData} (h : EvG K ta G s (.list xs) s') : EvG K (tCB (rLenQ K) (tCons ta tNil)) G s (.int xs.length) s' := ev_cb (ea_cons h ea_nil) fun W B ad H0 H σ vs S d Q q => by
  obtain ⟨v, rfl, d1⟩ := dp1 d
  cases d1 with
  | lst g t => exact ⟨_, _, rfl, .inl (ex_l less_ex g), by rw [dpa_len t]; exact q _ H S (Xb.refl) (.int _)⟩
theorem new_tup {W : Addr → Prop} {B : Option (Addr × Addr)} {ad : Nat → Addr} {H0 H : Hp} {σ : St} {vs : List V} {xs : List PyData} (S : Sta K W B ad H0 H σ G s) (d : DpAll K (less H (Zs W B ad G)) vs xs) {l : Addr} (hl : H l = none) {Q : VK}
    (q : ∀ v H2, Sta K W B ad H0 H2 σ G s → Xb B H H2 → Dp K (less H2 (Zs W B ad G)) v (.tuple xs) → Q v H2) : Q (.ref l) (upd H l (.tup vs)) := by
  obtain ⟨S2, e2, g⟩ := new_ex (o := .tup vs) S hl
  exact q _ _ S2 e2 (.tup (st_of g) (dpa_mono e2.l d))
theorem ev_tupL {xs : List PyData} (h : EvG K ta G s (.list xs) s') : EvG K (tCB (rTupQ K) (tCons ta tNil)) G s (.tuple xs) s' := ev_cb (ea_cons h ea_nil) fun W B ad H0 H σ vs S d Q q => by
  obtain ⟨v, rfl, d1⟩ := dp1 d
  cases d1 with
  | lst g t => exact ⟨_, _, rfl, .inl ⟨ex_l less_ex g, fun l hl => new_tup S t hl q⟩⟩
theorem dpa_bools {H : Hp} : ∀ {bs : List Bool} {vs : List V}, DpAll K H vs (bs.map PyData.bool) → vs = bs.map V.bl
  | [], _, .nil => rfl
  | b :: r, _, .cons h t => by cases h; rw [dpa_bools t]; rfl
theorem dpa_ints {H : Hp} : ∀ {bs : List Int} {vs : List V}, DpAll K H vs (bs.map PyData.int) → vs = bs.map V.int
  | [], _, .nil => rfl
  | b :: r, _, .cons h t => by cases h; rw [dpa_ints t]; rfl
theorem dpa_of_ints {H : Hp} : ∀ (bs : List Int), DpAll K H (bs.map V.int) (bs.map PyData.int)
  | [] => .nil
  | b :: r => .cons (.int b) (dpa_of_ints r)
theorem ev_all {bs : List Bool} (h : EvG K ta G s (.list (bs.map PyData.bool)) s') : EvG K (tCB (rAll K) (tCons ta tNil)) G s (.bool (bs.all id)) s' := ev_cb (ea_cons h ea_nil) fun W B ad H0 H σ vs S d Q q => by
  obtain ⟨v, rfl, d1⟩ := dp1 d
  cases d1 with
  | lst g t =>
    have e := dpa_bools t
    subst e
    exact ⟨_, bs, rfl, ex_l less_ex g, q _ H S (Xb.refl) (.bl _)⟩
/-! ### isinstance -/
noncomputable def tyN : PyData → String
  | .none => "NoneType"
  | .bool _ => "bool"
  | .int _ => "int"
  | .str _ => "str"
  | .list _ => "list"
  | .tuple _ => "tuple"
  | .dict _ => "dict"
theorem dp_ty {H : Hp} {Z : Addr → Prop} {v : V} {x : PyData} (h : Dp K (less H Z) v x) : TyX K H v (.type (tyN x)) := qt_of (by simp (disch := with_unfolding_all
  cases h with
  | non => exact .base .non
  | bl b => exact .base (.bl b)
  | int i => exact .base (.int i)
  | str i => exact .base (.str i)
  | lst g _ =>
    rcases ex_l less_ex g with (g | ⟨o, g⟩) | ⟨o, its, n, k, c, _⟩
    · exact .base (.lst g)
    · exact .base (.frz g)
    · exact .kList k c
  | tup g _ =>
    rcases ex_t less_ex g with (g | ⟨o, g⟩) | ⟨o, its, n, k, c, _⟩
    · exact .base (.tup g)
    · exact .fTuple g
    · exact .kTuple k c
  ) only [↓qt_eq])
/-- isinstance(x, T), T a built-in class -/
theorem ev_isi {n : String} {b : Bool} (h : EvG K ta G s x s') (hb : kitB (tyN x) n = some b) : EvG K (tCB (rIsi K) (tCons ta (tCons (tC (.ty n)) tNil))) G s (.bool b) s' := fun W B ad H0 H σ S Q q =>
  h W B ad H0 H σ S _ fun v H1 S1 e1 d1 => ⟨v, .ty n, _, _, b, rfl, .ty n, dp_ty d1, kit_ty hb, q _ H1 S1 e1 (.bl _)⟩
/-- isinstance(x, (S, T)) -/
theorem ev_isi2 {n m : String} {b c : Bool} (h : EvG K ta G s x s') (hb : kitB (tyN x) n = some b) (hc : kitB (tyN x) m = some c) : EvG K (tCB (rIsiT K) (tCons ta (tCons (tTup (tCons (tC (.ty n)) (tCons (tC (.ty m)) tNil))) tNil))) G s (.bool (b || c)) s' := fun W B ad H0 H σ S Q q =>
  h W B ad H0 H σ S _ fun v H1 S1 e1 d1 => ⟨by show 2 ≤ sizeLine; decide, fun p hp => by
    obtain ⟨S2, e2, g⟩ := new_ex (o := .tup [V.ty n, V.ty m]) S1 hp
    refine ⟨v, p, [.ty n, .ty m], _, [.type n, .type m], b || c, rfl, (less_some g).2, .cons (.ty n) (.cons (.ty m) .nil), dp_ty (dp_mono e2.l d1), kitAny_cons (kit_ty hb) (fun e => kitAny_cons (kit_ty hc) (fun e2 => ?_) fun e2 => ?_) (fun e => ?_), q _ _ S2 (e1.trans e2) (.bl _)⟩
    · rw [e, e2]; rfl
    · rw [e, e2]; rfl
    · rw [e]; rfl⟩
/-! ### slices -/
noncomputable def cutD (xs : List PyData) (lo hi : Option Int) : List PyData := (xs.drop (HT.sIx xs.length 0 lo)).take (HT.sIx xs.length xs.length hi - HT.sIx xs.length 0 lo)
theorem dpa_drop {H : Hp} : ∀ (n : Nat) {ds : List PyData} {vs : List V}, DpAll K H vs ds → DpAll K H (vs.drop n) (ds.drop n)
  | 0, _, _, h => h
  | n + 1, _, _, .nil => .nil
  | n + 1, _, _, .cons _ t => dpa_drop n t
theorem dpa_take {H : Hp} : ∀ (n : Nat) {ds : List PyData} {vs : List V}, DpAll K H vs ds → DpAll K H (vs.take n) (ds.take n)
  | 0, _, _, _ => .nil
  | n + 1, _, _, .nil => .nil
  | n + 1, _, _, .cons h t => .cons h (dpa_take n t)
theorem dpa_cut {H : Hp} {ds : List PyData} {vs : List V} (h : DpAll K H vs ds) (lo hi : Option Int) : DpAll K H (cutV vs lo hi) (cutD ds lo hi) := by
  unfold cutV cutD
  rw [dpa_len h]
  exact dpa_take _ (dpa_drop _ h)
end
end U

end
section
namespace U
open PySem L2 Evl
section
variable {K : Fg} {G G1 G2 : Gam} {s s1 s2 s3 s' : Bag} {ta tb tc te : TE} {t u : TT} {x y z : PyData} {tu tw tz : TS} {o : Out}
theorem Post.mono {W : Addr → Prop} {B : Option (Addr × Addr)} {H0 M M' : Hp} {D : Ends} (e : Ex M M') (h : Post K W B H0 M D o) : Post K W B H0 M' D o := qt_of (by simp (disch := with_unfolding_all
  cases o with
  | nx G s => exact fun ad H σ S x => h ad H σ S (e.trans x)
  | rt x s => exact h
  | bk G s => exact fun ad H σ S x => h ad H σ S (e.trans x)
  | ct G s => exact fun ad H σ S x => h ad H σ S (e.trans x)
  ) only [↓qt_eq])
theorem sg_seq (h : SG K tu G s (.nx G1 s1)) (k : SG K tz G1 s1 o) : SG K (tSeq tu tz) G s o := fun W B ad H0 H σ D S p =>
  h W B ad H0 H σ { D with nx := tz D } S fun ad' H' σ' S' e => k W B ad' H0 H' σ' D S' (p.mono e)
theorem sg_seqR (h : SG K tu G s (.rt x s1)) : SG K (tSeq tu tz) G s (.rt x s1) := fun W B ad H0 H σ D S p => h W B ad H0 H σ { D with nx := tz D } S p
theorem sg_next : SG K tNext G s (.nx G s) := fun W B ad H0 H σ D S p => p ad H σ S (Ex.refl _)
theorem sg_asg {i : Nat} (h : EvG K te G s x s1) : SG K (tAsg te (gName i)) G s (.nx (G.set i (.d x)) s1) := fun W B ad H0 H σ D S p =>
  h W B ad H0 H σ S _ fun v H1 S1 e1 d1 => p ad H1 _ (S1.setD d1) (e1.l.trans (less_sub fun a q => Zs.set_of (fun _ z => by cases z) q))
theorem sg_ret (h : EvG K te G s x s1) : SG K (tRet te) G s (.rt x s1) := fun W B ad H0 H σ D S p =>
  h W B ad H0 H σ S _ fun v H1 S1 e1 d1 => p v H1 S1.base S1.bag (dp_mono (less_sub fun a q => q.elim .inl fun z => .inr (.inr z)) d1)
/-- if c: return .. else on -/
theorem sg_when {b : Bool} (h : EvT K t G s b s1) (k1 : b = true → SG K (tSeq tu tz) G s1 o) (k2 : b = false → SG K tz G s1 o) : SG K (tSeq (tIfS t tu tNext) tz) G s o := fun W B ad H0 H σ D S p =>
  h W B ad H0 H σ S _ fun H1 S1 e1 => by
    cases b with
    | true => exact iteT (k1 rfl W B ad H0 H1 σ D S1 (p.mono e1.l))
    | false => exact iteF (k2 rfl W B ad H0 H1 σ D S1 (p.mono e1.l))
/-- x, y = a, b -/
theorem sg_par {i j : Nat} {ta : TA} (h : EvA K ta G s [x, y] s1) : SG K (tPar i j ta) G s (.nx ((G.set i (.d x)).set j (.d y)) s1) := fun W B ad H0 H σ D S p =>
  h W B ad H0 H σ S _ fun vs H1 S1 e1 d1 => by
    obtain ⟨v, w, rfl, d, d2⟩ := dp2 d1
    have e2 : Ex (less H1 (Zs W B ad G)) (less H1 (Zs W B ad (G.set i (.d x)))) := less_sub fun a q => Zs.set_of (fun _ z => by cases z) q
    have S2 := S1.setD (i := i) d
    exact ⟨v, w, rfl, p ad H1 _ (S2.setD (i := j) (dp_mono e2 d2)) (e1.l.trans (e2.trans (less_sub fun a q => Zs.set_of (fun _ z => by cases z) q)))⟩
/-! ### targets that are tuples of names -/
/-! ### lists of one's own -/
/-- what is no longer needed is forgotten -/
inductive Wk : Gam → Gam → Prop
  | nil : Wk [] []
  | cons {e : En} {G G' : Gam} : Wk G G' → Wk (e :: G) (e :: G')
  | drop {e : En} {G G' : Gam} : Wk G G' → Wk (e :: G) (.un :: G')
theorem Wk.refl : ∀ G : Gam, Wk G G
  | [] => .nil
  | _ :: G => .cons (Wk.refl G)
theorem Wk.length : ∀ {G G' : Gam}, Wk G G' → G.length = G'.length
  | _, _, .nil => rfl
  | _, _, .cons h => congrArg (· + 1) h.length
  | _, _, .drop h => congrArg (· + 1) h.length
theorem Wk.get : ∀ {G G' : Gam} {i : Nat} {e : En}, Wk G G' → G'[i]? = some e → G[i]? = some e ∨ e = .un
  | _, _, _, _, .nil, h => by simp at h
  | _, _, 0, _, .cons _, h => .inl h
  | _, _, 0, _, .drop _, h => .inr (Option.some.inj h).symm
  | _, _, i + 1, _, .cons w, h => Wk.get (i := i) w h
  | _, _, i + 1, _, .drop w, h => Wk.get (i := i) w h
theorem Wk.own {G G' : Gam} {i : Nat} {xs : List PyData} (w : Wk G G') (h : G'[i]? = some (.own xs)) : G[i]? = some (.own xs) := (w.get h).resolve_right fun z => by cases z
theorem Wk.ex {W : Addr → Prop} {B : Option (Addr × Addr)} {ad : Nat → Addr} {H : Hp} {G G' : Gam} (w : Wk G G') : Ex (less H (Zs W B ad G)) (less H (Zs W B ad G')) := less_sub fun a q => by
  rcases q with q | ⟨i, xs, g, r⟩ | q
  · exact .inl q
  · exact .inr (.inl ⟨i, xs, w.own g, r⟩)
  · exact .inr (.inr q)
theorem Sta.wk {W : Addr → Prop} {B : Option (Addr × Addr)} {ad : Nat → Addr} {H0 H : Hp} {σ : St} {G G' : Gam} (w : Wk G G') (S : Sta K W B ad H0 H σ G s) : Sta K W B ad H0 H σ G' s where
  len := S.len.trans w.length
  at_ := fun i e h => by
    rcases w.get h with g | rfl
    · obtain ⟨o, g1, g2⟩ := S.at_ i e g
      exact ⟨o, g1, g2.mono w.ex fun _ _ _ q => q⟩
    · have il : i < σ.length := by rw [S.len, w.length]; exact (List.getElem?_eq_some_iff.mp h).1
      exact ⟨σ[i], List.getElem?_eq_getElem il, trivial⟩
  inj := fun i j xs ys g g' q => S.inj i j xs ys (w.own g) (w.own g') q
  sep := fun i xs g => S.sep i xs (w.own g)
  base := S.base
  bag := S.bag
  wd := S.wd
theorem sg_wk (h : SG K tu G s (.nx G1 s1)) (w : Wk G1 G2) : SG K tu G s (.nx G2 s1) := fun W B ad H0 H σ D S p =>
  h W B ad H0 H σ D S fun ad' H' σ' S' e => p ad' H' σ' (S'.wk w) (e.trans w.ex)
theorem sg_is {o'} (h : SG K tu G s o) (e : o = o') : SG K tu G s o' := e ▸ h
/-! ### loops -/
/-- what a turn of a loop may end with: going on -/
noncomputable def Turn (K : Fg) (tb : TS) (G : Gam) (s : Bag) (G' : Gam) (s' : Bag) : Prop := SG K tb G s (.nx G' s') ∨ SG K tb G s (.ct G' s')
theorem Turn.run {tb : TS} {G' : Gam} (h : Turn K tb G s G' s') {W : Addr → Prop} {B : Option (Addr × Addr)} {ad : Nat → Addr} {H0 H : Hp} {σ : St} {D : Ends} {N : St → Hp → Prop} (S : Sta K W B ad H0 H σ G s) (hn : D.nx = N) (hc : D.ct = N)
    (q : ∀ ad' H' σ', Sta K W B ad' H0 H' σ' G' s' → Ex (less H (Zs W B ad G)) (less H' (Zs W B ad' G')) → N σ' H') : tb D σ H := by
  rcases h with h | h
  · exact h W B ad H0 H σ D S fun ad' H' σ' S' e => by rw [hn]; exact q ad' H' σ' S' e
  · exact h W B ad H0 H σ D S fun ad' H' σ' S' e => by rw [hc]; exact q ad' H' σ' S' e
/-- while, by its states one behind the other -/
theorem sg_while {tb : TS} (GG : Nat → Gam) (SS TS' : Nat → Bag) (n : Nat) (w0 : Wk G (GG 0)) (h0 : SS 0 = s) (ht : ∀ i, i < n → EvT K t (GG i) (SS i) true (TS' i)) (hs : ∀ i, i < n → Turn K tb (GG i) (TS' i) (GG (i + 1)) (SS (i + 1)))
    (he : EvT K t (GG n) (SS n) false s') : SG K (tWhile t tb) G s (.nx (GG n) s') := fun W B ad H0 H σ D S p => by
  refine ⟨fun m σ' H' => ∃ i ad', m = n - i ∧ i ≤ n ∧ Sta K W B ad' H0 H' σ' (GG i) (SS i) ∧ Ex (less H (Zs W B ad G)) (less H' (Zs W B ad' (GG i))), ⟨n, 0, ad, rfl, Nat.zero_le _, by rw [h0]; exact S.wk w0, w0.ex⟩, ?_⟩
  rintro m σ' H' ⟨i, ad', rfl, hi, S', e'⟩
  by_cases hlt : i < n
  · refine ht i hlt W B ad' H0 H' σ' S' _ fun H2 S2 e2 => iteT ⟨fun σ3 H3 => ∃ ad3, Sta K W B ad3 H0 H3 σ3 (GG (i + 1)) (SS (i + 1)) ∧ Ex (less H (Zs W B ad G)) (less H3 (Zs W B ad3 (GG (i + 1)))), ?_, ?_⟩
    · rintro σ3 H3 ⟨ad3, S3, e3⟩
      exact ⟨n - (i + 1), by omega, i + 1, ad3, rfl, hlt, S3, e3⟩
    · exact (hs i hlt).run S2 rfl rfl fun ad3 H3 σ3 S3 e3 => ⟨ad3, S3, (e'.trans e2.l).trans e3⟩
  · have en : i = n := by omega
    subst en
    exact he W B ad' H0 H' σ' S' _ fun H2 S2 e2 => iteF (p ad' H2 σ' S2 (e'.trans e2.l))
end
end U

end
section
namespace U
open PySem L2 Evl
/-! ### what is walked, and into which names -/
noncomputable def ItOk (K : Fg) (J : It) (ds : List PyData) (M : Hp) : Prop := ∀ (H' : Hp) (Z : Addr → Prop), (∀ a, Z a → ∃ o, H' a = some o) → Ex M (less H' Z) → ∀ i,
  (∀ d, ds[i]? = some d → J.go i H') ∧ (ds.length ≤ i → J.stop i H') ∧ ∀ x H'', J.yld i H' x H'' → Ex H' H'' ∧ ∀ d, ds[i]? = some d → Dp K (less H'' Z) x d
noncomputable def Src (K : Fg) (wi : TI) (G : Gam) (s : Bag) (ds : List PyData) (s1 : Bag) : Prop :=
  ∀ W B ad H0 H σ, Sta K W B ad H0 H σ G s → ∀ R : It → Hp → Prop, (∀ J H1, Sta K W B ad H0 H1 σ G s1 → Xb B H H1 → ItOk K J ds (less H1 (Zs W B ad G)) → R J H1) → wi σ H R
noncomputable def Off (vs : List Nat) (G G' : Gam) : Prop := G.length = G'.length ∧ (∀ i, i ∉ vs → G'[i]? = G[i]?) ∧ ∀ i xs, i ∈ vs → G'[i]? ≠ some (.own xs)
noncomputable def Tgt (K : Fg) (g : TG) (vs : List Nat) (G : Gam) (x : PyData) (G' : Gam) : Prop := Off vs G G' ∧ ∀ W B ad H0 H σ s v, Sta K W B ad H0 H σ G s → Dp K (less H (Zs W B ad G)) v x → ∀ Q : St → Hp → Prop,
  (∀ σ', Sta K W B ad H0 H σ' G' s → Ex (less H (Zs W B ad G)) (less H (Zs W B ad G')) → wipe σ' vs = wipe σ vs → Q σ' H) → g v σ H Q
section
variable {K : Fg} {G G' G1 G2 : Gam} {s s1 s2 s3 s' : Bag} {ta tb tc te : TE} {t u : TT} {x y z : PyData} {tu tw tz : TS} {o : Out}
noncomputable def rngD (lo : Int) (n : Nat) : List PyData := (List.range n).map fun i : Nat => .int (lo + (i : Int))
theorem rngD_len (lo : Int) (n : Nat) : (rngD lo n).length = n := by simp [rngD]
theorem rngD_get {lo : Int} {n i : Nat} (h : i < n) : (rngD lo n)[i]? = some (.int (lo + (i : Int))) := by
  unfold rngD
  rw [List.getElem?_map, List.getElem?_range h]
  rfl
theorem it_rng {lo : Int} {n : Nat} {M : Hp} : ItOk K (Itr lo n) (rngD lo n) M := fun H' Z hz e i => by
  refine ⟨fun d hd => ?_, fun hl => ?_, fun x H'' hy => ?_⟩
  · have := (List.getElem?_eq_some_iff.mp hd).1
    rw [rngD_len] at this
    exact this
  · rw [rngD_len] at hl
    exact hl
  · obtain ⟨rfl, rfl⟩ := hy
    refine ⟨Ex.refl _, fun d hd => ?_⟩
    have hl := (List.getElem?_eq_some_iff.mp hd).1
    rw [rngD_len] at hl
    rw [rngD_get hl] at hd
    cases hd
    exact .int _
theorem src_rng1 {ta : TA} {n : Int} (h : EvA K ta G s [.int n] s1) (hn : -1000000 ≤ n ∧ n ≤ 1000000) : Src K (iRng1 ta) G s (rngD 0 n.toNat) s1 := fun W B ad H0 H σ S R q => h W B ad H0 H σ S _ fun vs H1 S1 e1 d1 => by
  obtain ⟨v, rfl, d⟩ := dp1 d1
  cases d
  exact ⟨n, rfl, by omega, by omega, q _ H1 S1 e1 it_rng⟩
/-! ### targets -/
theorem tgt_name {j : Nat} : Tgt K (gName j) [j] G x (G.set j (.d x)) := by
  refine ⟨⟨by rw [List.length_set], fun i hi => ?_, fun i xs hi h => ?_⟩, fun W B ad H0 H σ s v S d Q q => q _ (S.setD d) (less_sub fun a q => Zs.set_of (fun _ z => by cases z) q) ?_⟩
  · rw [List.getElem?_set_ne (fun z => hi (by rw [z]; exact List.mem_singleton.mpr rfl))]
  · rcases get_set h with ⟨rfl, l, e⟩ | ⟨z, g⟩
    · cases e
    · exact z (List.mem_singleton.mp hi).symm
  · show (List.set (List.set σ j (some v)) j none) = List.set σ j none
    rw [List.set_set]
theorem wipe_set : ∀ {vs : List Nat} {σ : St} {i : Nat} {o : Option V}, i ∈ vs → wipe (σ.set i o) vs = wipe σ vs
  | v :: vs, σ, i, o, h => by
    show (wipe (σ.set i o) vs).set v none = (wipe σ vs).set v none
    by_cases hv : i ∈ vs
    · rw [wipe_set hv]
    · have e : i = v := (List.mem_cons.mp h).resolve_right hv
      subst e
      have c : ∀ (vs : List Nat) (σ : St), i ∉ vs → wipe (σ.set i o) vs = (wipe σ vs).set i o := fun vs => by
        induction vs with
        | nil => exact fun _ _ => rfl
        | cons w vs ih =>
          intro σ hn
          show (wipe (σ.set i o) vs).set w none = ((wipe σ vs).set w none).set i o
          rw [ih σ (fun z => hn (List.mem_cons_of_mem _ z)), List.set_comm _ _ (fun z => hn (by rw [z]; exact List.mem_cons_self))]
      rw [c vs σ hv, List.set_set]
/-! ### for, over anything -/
/-! ### comprehensions -/
theorem wipe_get : ∀ {vs : List Nat} {σ : St} {i : Nat}, i ∉ vs → (wipe σ vs)[i]? = σ[i]?
  | [], _, _, _ => rfl
  | v :: vs, σ, i, h => by
    show ((wipe σ vs).set v none)[i]? = _
    rw [List.getElem?_set_ne (fun z => h (by rw [z]; exact List.mem_cons_self)), wipe_get (fun z => h (List.mem_cons_of_mem _ z))]
theorem wipe_wipe {vs : List Nat} {σ : St} : wipe (wipe σ vs) vs = wipe σ vs := qt_of (by simp (disch := with_unfolding_all
  have key : ∀ us : List Nat, (∀ i ∈ us, i ∈ vs) → wipe (wipe σ us) vs = wipe σ vs := fun us => by
    induction us with
    | nil => exact fun _ => rfl
    | cons u us ih =>
      intro h
      show wipe ((wipe σ us).set u none) vs = wipe σ vs
      rw [wipe_set (h u List.mem_cons_self), ih fun i hi => h i (List.mem_cons_of_mem _ hi)]
  exact key vs fun _ h => h
  ) only [↓qt_eq])
theorem Sta.slots {W : Addr → Prop} {B : Option (Addr × Addr)} {ad : Nat → Addr} {H0 H : Hp} {σ σ' : St} {vs : List Nat} (S : Sta K W B ad H0 H σ G s) (ho : Off vs G G') (hu : ∀ i e, i ∈ vs → G'[i]? = some e → e = .un) (hg : ∀ i xs, i ∈ vs → G[i]? ≠ some (.own xs)) (hw : wipe σ vs = wipe σ' vs) : Sta K W B ad H0 H σ' G' s := qt_of (by simp (disch := with_unfolding_all
  have hl : σ.length = σ'.length := by
    have := congrArg List.length hw
    rw [wipe_length, wipe_length] at this
    exact this
  have zz : ∀ a, Zs W B ad G' a ↔ Zs W B ad G a := fun a => by
    constructor
    · rintro (z | ⟨i, xs, g, r⟩ | z)
      · exact .inl z
      · by_cases hi : i ∈ vs
        · exact absurd (hu i _ hi g) (fun e => by cases e)
        · rw [ho.2.1 i hi] at g; exact .inr (.inl ⟨i, xs, g, r⟩)
      · exact .inr (.inr z)
    · rintro (z | ⟨i, xs, g, r⟩ | z)
      · exact .inl z
      · by_cases hi : i ∈ vs
        · exact absurd g (hg i xs hi)
        · exact .inr (.inl ⟨i, xs, by rw [ho.2.1 i hi]; exact g, r⟩)
      · exact .inr (.inr z)
  have zl : Zs W B ad G' = Zs W B ad G := funext fun a => propext (zz a)
  have own : ∀ (i : Nat) (xs : List PyData), G'[i]? = some (En.own xs) → G[i]? = some (En.own xs) := fun i xs g => by
    by_cases hi : i ∈ vs
    · exact absurd (hu i _ hi g) (fun e => by cases e)
    · rw [ho.2.1 i hi] at g; exact g
  refine ⟨hl ▸ (S.len.trans ho.1), fun i e g => ?_, fun i j xs ys g g' q => S.inj i j xs ys (own i xs g) (own j ys g') q, fun i xs g => S.sep i xs (own i xs g), S.base, S.bag, S.wd⟩
  by_cases hi : i ∈ vs
  · have e := hu i e hi g
    subst e
    have il : i < σ'.length := by rw [← hl, S.len, ho.1]; exact (List.getElem?_eq_some_iff.mp g).1
    exact ⟨σ'[i], List.getElem?_eq_getElem il, trivial⟩
  · rw [ho.2.1 i hi] at g
    obtain ⟨o, g1, g2⟩ := S.at_ i e g
    refine ⟨o, ?_, by rw [zl]; exact g2⟩
    rw [← wipe_get hi, ← hw, wipe_get hi]
    exact g1
  ) only [↓qt_eq])
theorem range_fm_succ (f : Nat → Option PyData) (i : Nat) : (List.range (i + 1)).filterMap f = (List.range i).filterMap f ++ (f i).toList := by
  rw [List.range_succ, List.filterMap_append]
  cases h : f i <;> simp [h]
/-- [elt for target in .. if ..]: f tells what each turn gives -/
theorem ev_lc {wi : TI} {g : TG} {vs : List Nat} {tt : TT} {ds : List PyData} (h : Src K wi G s ds s1) (f : Nat → Option PyData) (SS : Nat → Bag) (h0 : SS 0 = s1) (hu : ∀ i e, i ∈ vs → G[i]? = some e → e = .un) (hz : ds.length ≤ 16000000)
    (hs : ∀ i x, ds[i]? = some x → ∃ Gt s2, Tgt K g vs G x Gt ∧ EvT K tt Gt (SS i) (f i).isSome s2 ∧ (∀ y, f i = some y → EvG K te Gt s2 y (SS (i + 1))) ∧ (f i = none → s2 = SS (i + 1))) :
    EvG K (tLc wi g tt te vs) G s (.list ((List.range ds.length).filterMap f)) (SS ds.length) := fun W B ad H0 H σ S Q q =>
  h W B ad H0 H σ S _ fun J H1 S1 e1 ok Dl hD => by
    have hgu : ∀ i xs, i ∈ vs → G[i]? ≠ some (.own xs) := fun i xs hi g => by cases hu i _ hi g
    obtain ⟨L0, el0⟩ := S1.lend (o := .lst []) hD
    have fr := S1.fresh hD
    have npD : ¬ Zs W B ad G Dl := by
      rintro (z | ⟨i, xs, g, r⟩ | z)
      · obtain ⟨o, z⟩ := S1.wd _ z
        rw [hD] at z; cases z
      · obtain ⟨_, _, _, vs, h1, _⟩ := S1.at_ i _ g
        rw [← r, hD] at h1; cases h1
      · exact fr.2 z
    refine ⟨fun i m H' => m = ds.length - i ∧ i ≤ ds.length ∧ Sta K (fun a => W a ∨ a = Dl) B ad H0 H' σ G (SS i) ∧ Ex (less H1 (Zs W B ad G)) (less H' (Zs (fun a => W a ∨ a = Dl) B ad G)) ∧ Xb B H1 H' ∧
      ∃ acc, H' Dl = some (.lst acc) ∧ DpAll K (less H' (Zs (fun a => W a ∨ a = Dl) B ad G)) acc ((List.range i).filterMap f), ⟨ds.length, rfl, Nat.zero_le _, by rw [h0]; exact L0, by rw [el0]; exact Ex.refl _, .of (Ex.new hD), [], upd_same, .nil⟩, ?_⟩
    rintro i m H' ⟨rfl, hi, S', e', xb, acc, ha, hd⟩
    obtain ⟨k1, k2, k3⟩ := ok H' (Zs (fun a => W a ∨ a = Dl) B ad G) S'.there e' i
    by_cases hlt : i < ds.length
    · have hx : ds[i]? = some ds[i] := List.getElem?_eq_getElem hlt
      obtain ⟨Gt, s2, tg, ht, hy, hn⟩ := hs i _ hx
      refine .inr ⟨k1 _ hx, fun H3 => Sta K (fun a => W a ∨ a = Dl) B ad H0 H3 σ G (SS (i + 1)) ∧ Ex (less H1 (Zs W B ad G)) (less H3 (Zs (fun a => W a ∨ a = Dl) B ad G)) ∧ Xb B H1 H3 ∧
        ∃ acc, H3 Dl = some (.lst acc) ∧ DpAll K (less H3 (Zs (fun a => W a ∨ a = Dl) B ad G)) acc ((List.range (i + 1)).filterMap f), fun H3 h3 => ⟨ds.length - (i + 1), by omega, rfl, hlt, h3⟩, fun v H'' hyl => ?_⟩
      obtain ⟨ex, dx⟩ := k3 v H'' hyl
      have S2 := (S'.ext ex).slots (σ' := wipe σ vs) (G' := G) (vs := vs) ⟨rfl, fun _ _ => rfl, hgu⟩ hu hgu wipe_wipe.symm
      refine tg.2 _ B ad H0 H'' _ (SS i) v S2 (dx _ hx) _ fun σ2 S3 e3 ew => ⟨by rw [ew, wipe_wipe], ?_⟩
      have eZ : Zs (fun a => W a ∨ a = Dl) B ad Gt = Zs (fun a => W a ∨ a = Dl) B ad G := funext fun a => propext (by
        have own : ∀ (i : Nat) (xs : List PyData), Gt[i]? = some (En.own xs) ↔ G[i]? = some (En.own xs) := fun i xs => by
          by_cases hi : i ∈ vs
          · exact ⟨fun g => absurd g (tg.1.2.2 i xs hi), fun g => absurd g (hgu i xs hi)⟩
          · rw [tg.1.2.1 i hi]
        constructor
        · rintro (z | ⟨i, xs, g, r⟩ | z)
          · exact .inl z
          · exact .inr (.inl ⟨i, xs, (own i xs).mp g, r⟩)
          · exact .inr (.inr z)
        · rintro (z | ⟨i, xs, g, r⟩ | z)
          · exact .inl z
          · exact .inr (.inl ⟨i, xs, (own i xs).mpr g, r⟩)
          · exact .inr (.inr z))
      have back : ∀ {H5 : Hp} {b : Bag}, Sta K (fun a => W a ∨ a = Dl) B ad H0 H5 σ2 Gt b → Sta K (fun a => W a ∨ a = Dl) B ad H0 H5 σ G b := fun {H5 b} S5 =>
        S5.slots (G' := G) (vs := vs) ⟨tg.1.1.symm, fun i hi => (tg.1.2.1 i hi).symm, hgu⟩ hu tg.1.2.2 (by rw [ew, wipe_wipe])
      have hB : ¬ InB B Dl := fr.2
      have ha2 : H'' Dl = some (.lst acc) := ex _ _ ha
      have al : acc.length < sizeLine := by
        have h1 := dpa_len hd
        have h2 := List.length_filterMap_le f (List.range i)
        rw [List.length_range] at h2
        exact Nat.lt_of_lt_of_le (show acc.length < 16777216 by omega) (by decide)
      refine ht _ B ad H0 H'' σ2 S3 _ fun H3 S4 e4 => ?_
      have e5 : Ex (less H' (Zs (fun a => W a ∨ a = Dl) B ad G)) (less H3 (Zs (fun a => W a ∨ a = Dl) B ad G)) := (less_mono ex).trans e4.l
      cases hf : (f i) with
      | none =>
        rw [hn hf] at S4
        refine iteF ⟨back S4, e'.trans e5, (xb.trans (.of ex)).trans e4, acc, e4 _ _ ha2 hB, ?_⟩
        rw [range_fm_succ, hf]
        show DpAll K _ acc (_ ++ [])
        rw [List.append_nil]
        exact dpa_mono e5 hd
      | some y =>
        refine iteT ?_
        refine hy y hf _ B ad H0 H3 σ2 S4 _ fun w H4 S5 e6 dw => ?_
        rw [eZ] at dw
        have S6 := back S5
        have h0 : H0 Dl = none := fr.1
        obtain ⟨S7, el7⟩ := S6.foreign (o := .lst (acc ++ [w])) (p := Dl) (.inr rfl) h0 hB
        refine ⟨acc, e6 _ _ (e4 _ _ ha2 hB) hB, al, S7, ?_, ?_, acc ++ [w], upd_same, ?_⟩
        · rw [el7]
          exact e'.trans (e5.trans e6.l)
        · intro a o g n
          have na : a ≠ Dl := ne_of_none g hD
          rw [upd_ne na]
          exact ((((xb.trans (.of ex)).trans e4).trans e6) a o g n)
        · rw [el7, range_fm_succ, hf]
          exact dpa_app (dpa_mono (e5.trans e6.l) hd) (.cons dw .nil)
    · have en : i = ds.length := by omega
      subst en
      obtain ⟨S5, e5⟩ := S'.back
      refine .inl ⟨k2 (Nat.le_refl _), q _ H' S5 (e1.trans ?_) (.lst (sq_of (less_of npD ha)) (dpa_mono e5 hd))⟩
      exact fun a o g n => xb a o g n
end
end U

end
section
namespace U
open PySem PyProof.Rows L2 Evl
section
variable {K : Fg} {G G' G1 G2 : Gam} {s s1 s2 s3 s' : Bag} {ta tb tc te : TE} {t u : TT} {x y z : PyData} {tu tw tz : TS} {o : Out}
theorem range_fm_map {ds : List PyData} (F : PyData → PyData) : (List.range ds.length).filterMap (fun i => (ds[i]?).map F) = ds.map F := qt_of (by simp (disch := with_unfolding_all
  have key : ∀ (l : List PyData), (List.range l.length).filterMap (fun i => l[i]?) = l := fun l => by
    induction l with
    | nil => rfl
    | cons a l ih =>
      rw [List.length_cons, List.range_succ_eq_map, List.filterMap_cons]
      simp only [List.getElem?_cons_zero, List.filterMap_map]
      refine congrArg (a :: ·) ?_
      exact ih
  have h : (fun i : Nat => (ds[i]?).map F) = fun i : Nat => (ds.map F)[i]? := by
    funext i
    rw [List.getElem?_map]
  rw [h]
  have e := key (ds.map F)
  rw [List.length_map] at e
  exact e
  ) only [↓qt_eq])
theorem et_yes : EvT K tYes G s true s := fun W B ad H0 H σ S Q q => q H S Xb.refl
/-- [elt for target in ..], nothing drawn, no test -/
theorem ev_lcM {wi : TI} {g : TG} {vs : List Nat} {ds : List PyData} (h : Src K wi G s ds s1) (F : PyData → PyData) (hu : ∀ i e, i ∈ vs → G[i]? = some e → e = .un) (hz : ds.length ≤ 16000000)
    (hs : ∀ x, x ∈ ds → ∃ Gt, Tgt K g vs G x Gt ∧ EvG K te Gt s1 (F x) s1) : EvG K (tLc wi g tYes te vs) G s (.list (ds.map F)) s1 := qt_of (by simp (disch := with_unfolding_all
  have k := ev_lc (K := K) (te := te) (tt := tYes) h (fun i => (ds[i]?).map F) (fun _ => s1) rfl hu hz fun i x hx => by
    obtain ⟨Gt, a, b⟩ := hs x (List.mem_of_getElem? hx)
    refine ⟨Gt, s1, a, ?_, fun y hy => ?_, fun hn => rfl⟩
    · rw [hx]; exact et_yes
    · rw [hx] at hy
      cases hy
      exact b
  rw [range_fm_map] at k
  exact k
  ) only [↓qt_eq])
/-! ### deep equality -/
end
/-! ### defs -/
section
variable {Pg : Program} {w : World} {K : Fg} {mg : Str → Option Value} {base : Heap}
noncomputable def frame (n : Nat) (ds : List PyData) : Gam := ds.map .d ++ List.replicate (n - ds.length) .un
theorem frame_get {n i : Nat} {ds : List PyData} {e : En} (h : (frame n ds)[i]? = some e) : (∃ d, ds[i]? = some d ∧ e = .d d) ∨ (ds.length ≤ i ∧ e = .un) := qt_of (by simp (disch := with_unfolding_all
  unfold frame at h
  by_cases hi : i < ds.length
  · rw [List.getElem?_append_left (by rw [List.length_map]; exact hi), List.getElem?_map, List.getElem?_eq_getElem hi] at h
    exact .inl ⟨ds[i], List.getElem?_eq_getElem hi, (Option.some.inj h).symm⟩
  · have hi : ds.length ≤ i := by omega
    rw [List.getElem?_append_right (by rw [List.length_map]; exact hi)] at h
    exact .inr ⟨hi, (List.mem_replicate.mp (List.mem_of_getElem? h)).2⟩
  ) only [↓qt_eq])
theorem start_get {N : List Str} {vs : List V} {i : Nat} {v : V} (h : vs[i]? = some v) : (L2.start N vs)[i]? = some (some v) := by
  unfold L2.start
  have hi := (List.getElem?_eq_some_iff.mp h).1
  rw [List.getElem?_append_left (by rw [List.length_map]; exact hi), List.getElem?_map, h]
  rfl
theorem start_len {N : List Str} {vs : List V} : (L2.start N vs).length = vs.length + (N.length - vs.length) := by
  unfold L2.start
  rw [List.length_append, List.length_map, List.length_replicate]
/-- the state at a def's entry -/
theorem sta0 {N : List Str} {W : Addr → Prop} {H : Hp} {vs : List V} {ds : List PyData} (hW : ∀ a, W a → ∃ o, H a = some o) (hd : DpAll K (less H W) vs ds) (b : Bag) : Sta K W none (fun _ => 0) H H (L2.start N vs) (frame N.length ds) b := qt_of (by simp (disch := with_unfolding_all
  have no : ∀ (i : Nat) (xs : List PyData), (frame N.length ds)[i]? ≠ some (En.own xs) := fun i xs h => by
    rcases frame_get h with ⟨d, _, e⟩ | ⟨_, e⟩ <;> cases e
  have zz : ∀ a, Zs W none (fun _ => 0) (frame N.length ds) a → W a := by
    rintro a (z | ⟨i, xs, g, _⟩ | ⟨b, c, z, _⟩)
    · exact z
    · exact absurd g (no i xs)
    · cases z
  refine ⟨?_, fun i e h => ?_, fun i j xs ys g => absurd g (no i xs), fun i xs g => absurd g (no i xs), fun a o h _ => h, trivial, hW⟩
  · rw [start_len, dpa_len hd]
    unfold frame
    rw [List.length_append, List.length_map, List.length_replicate]
  · rcases frame_get h with ⟨d, hi, rfl⟩ | ⟨hi, rfl⟩
    · obtain ⟨v, hv, dv⟩ := dpa_get hd hi
      exact ⟨some v, start_get hv, v, rfl, dp_mono (less_sub zz) dv⟩
    · have il : i < (L2.start N vs).length := by
        rw [start_len, dpa_len hd]
        have := (List.getElem?_eq_some_iff.mp h).1
        unfold frame at this
        rw [List.length_append, List.length_map, List.length_replicate] at this
        exact this
      exact ⟨(L2.start N vs)[i], List.getElem?_eq_getElem il, trivial⟩
  ) only [↓qt_eq])
/-- a def of data -/
theorem okP {x qual : Str} {st : Stmt} {f : Addr} {fd : FuncData} {N ps : List Str} {k : Nat} {P : List PyData → PyData → Prop} (F : Fun K x qual st f fd) (S : FnScope N ps (defScope st)) (hl : ∀ ds r, P ds r → ds.length = ps.length)
    (hb : ∀ ds r, P ds r → ∀ (cdv : Value) (A : Around) (outer : List Env) (sh : Shared) (H : Hp) (E : XK), Room k (A.deeper (envOfC qual (defScope st) sh.heap.objs.size f cdv)) →
      ∃ t, PSs (cxOf CX0 Pg w K mg base N qual (defScope st) f cdv A outer sh H E).nox (defBody st) t ∧ ∀ b, SG K t (frame N.length ds) b (.rt r b)) : FnOk Pg w K mg base CX0 (k + 1) f fd ps (spP K P) := qt_of (by simp (disch := with_unfolding_all
  refine F.ok S (fun vs H Q E h => ?_) (fun cdv A outer sh H vs Q E hr h => ?_)
  · obtain ⟨W, ds, r, _, hd, hp, _⟩ := h
    rw [dpa_len hd]
    exact hl ds r hp
  · obtain ⟨W, ds, r, hW, hd, hp, q⟩ := h
    obtain ⟨t, ht, g⟩ := hb ds r hp cdv A outer sh H E hr
    refine ⟨t, ht, g ⟨[], 0, 0⟩ W none (fun _ => 0) H H _ _ (sta0 hW hd _) fun v H' e _ d => q v H' (fun a o h => e a o h (fun ⟨_, _, z, _⟩ => by cases z)) (dp_mono (less_sub fun a z => .inl z) d)⟩
  ) only [↓qt_eq])
theorem staB {N : List Str} {W : Addr → Prop} {H : Hp} {b c : Addr} {vs : List V} {ds : List PyData} {s : Bag} (hW : ∀ a, W a → ∃ o, H a = some o) (hB : BagAt H (some (b, c)) s) (hd : DpAll K (less H fun a => W a ∨ InB (some (b, c)) a) vs ds) :
    Sta K W (some (b, c)) (fun _ => 0) H H (L2.start N (.ref b :: vs)) (.bag :: frame (N.length - 1) ds) s := qt_of (by simp (disch := with_unfolding_all
  have no : ∀ (i : Nat) (xs : List PyData), (En.bag :: frame (N.length - 1) ds)[i]? ≠ some (En.own xs) := fun i xs h => by
    cases i with
    | zero => cases h
    | succ i => rcases frame_get h with ⟨d, _, e⟩ | ⟨_, e⟩ <;> cases e
  have zz : ∀ a, Zs W (some (b, c)) (fun _ => 0) (En.bag :: frame (N.length - 1) ds) a → W a ∨ InB (some (b, c)) a := by
    rintro a (z | ⟨i, xs, g, _⟩ | z)
    · exact .inl z
    · exact absurd g (no i xs)
    · exact .inr z
  have ln : (L2.start N (.ref b :: vs)).length = (En.bag :: frame (N.length - 1) ds).length := by
    rw [start_len, List.length_cons, List.length_cons, dpa_len hd]
    unfold frame
    rw [List.length_append, List.length_map, List.length_replicate]
    omega
  refine ⟨ln, fun i e h => ?_, fun i j xs ys g => absurd g (no i xs), fun i xs g => absurd g (no i xs), fun a o h _ => h, hB, hW⟩
  cases i with
  | zero =>
    cases h
    exact ⟨some (.ref b), rfl, b, c, rfl, rfl⟩
  | succ i =>
    rcases frame_get h with ⟨d, hi, rfl⟩ | ⟨hi, rfl⟩
    · obtain ⟨v, hv, dv⟩ := dpa_get hd hi
      exact ⟨some v, start_get (show (V.ref b :: vs)[i + 1]? = some v from hv), v, rfl, dp_mono (less_sub zz) dv⟩
    · have il : i + 1 < (L2.start N (.ref b :: vs)).length := by
        rw [ln]; exact (List.getElem?_eq_some_iff.mp h).1
      exact ⟨_, List.getElem?_eq_getElem il, trivial⟩
  ) only [↓qt_eq])
/-- a def that draws -/
theorem okB {x qual : Str} {st : Stmt} {f : Addr} {fd : FuncData} {N ps : List Str} {k : Nat} {P : Bag → List PyData → PyData → Bag → Prop} (F : Fun K x qual st f fd) (S : FnScope N ps (defScope st)) (hl : ∀ s ds r s', P s ds r s' → ds.length + 1 = ps.length)
    (hb : ∀ s ds r s', P s ds r s' → s.ok → ∀ (cdv : Value) (A : Around) (outer : List Env) (sh : Shared) (H : Hp) (E : XK), Room k (A.deeper (envOfC qual (defScope st) sh.heap.objs.size f cdv)) →
      ∃ t, PSs (cxOf CX0 Pg w K mg base N qual (defScope st) f cdv A outer sh H E).nox (defBody st) t ∧ SG K t (.bag :: frame (N.length - 1) ds) s (.rt r s')) : FnOk Pg w K mg base CX0 (k + 1) f fd ps (spB K P) := qt_of (by simp (disch := with_unfolding_all
  refine F.ok S (fun vs H Q E h => ?_) (fun cdv A outer sh H vs Q E hr h => ?_)
  · obtain ⟨W, b, c, us, s, ds, r, s', _, rfl, _, hd, hp, _⟩ := h
    rw [List.length_cons, dpa_len hd]
    exact hl s ds r s' hp
  · obtain ⟨W, b, c, us, s, ds, r, s', hW, rfl, hB, hd, hp, q⟩ := h
    obtain ⟨t, ht, g⟩ := hb s ds r s' hp hB.2.2 cdv A outer sh H E hr
    exact ⟨t, ht, g W (some (b, c)) (fun _ => 0) H H _ _ (staB hW hB hd) fun v H' e hb d => q v H' e hb d⟩
  ) only [↓qt_eq])
/-! ### the law itself: the script, the bag made of it, the rest -/
noncomputable def bag0 (ns : List Int) : Bag := ⟨ns, 0, 20011⟩
noncomputable def spBag (K : Fg) : Sp := fun vs H Q _ => ∃ (W : Addr → Prop) (ns : List Int), (∀ a, W a → ∃ o, H a = some o) ∧ DpAll K (less H W) vs [.list (ns.map PyData.int)] ∧ ns.length ≤ 63 ∧
  ∀ b c H', Ex H H' → H b = none → H c = none → BagAt H' (some (b, c)) (bag0 ns) → Q (.ref b) H'
noncomputable def PLaw : List PyData → PyData → Prop := fun ds r => ∃ ns : List Int, ds = [.list (ns.map PyData.int)] ∧ ns.length ≤ 63 ∧ r = .bool true
end
end U

end
section
namespace U
open PySem PyProof.Rows L2 Evl
/-! ### the mathematics of fractions -/
noncomputable abbrev Fr := Int × Int
noncomputable abbrev fr (p : Fr) : PyData := .tuple [.int p.1, .int p.2]
noncomputable def gN (a b : Int) : Nat := max (Nat.gcd a.natAbs b.natAbs) 1
noncomputable def gI (a b : Int) : Int := (gN a b : Int)
theorem gI_pos (a b : Int) : 0 < gI a b := by
  unfold gI gN
  have : 1 ≤ max (Nat.gcd a.natAbs b.natAbs) 1 := Nat.le_max_right _ _
  omega
/-- the states of Euclid's loop -/
noncomputable def eu (x y : Nat) : Nat → Nat × Nat
  | 0 => (x, y)
  | i + 1 => ((eu x y i).2, (eu x y i).1 % (eu x y i).2)
theorem eu_shift (x y : Nat) : ∀ i, eu x y (i + 1) = eu y (x % y) i
  | 0 => rfl
  | i + 1 => by
    show ((eu x y (i + 1)).2, (eu x y (i + 1)).1 % (eu x y (i + 1)).2) = _
    rw [eu_shift x y i]
    rfl
theorem eu_end : ∀ (y x : Nat), ∃ n, eu x y n = (Nat.gcd x y, 0) ∧ ∀ i, i < n → 0 < (eu x y i).2 := fun y => by
  induction y using Nat.strongRecOn with
  | ind y ih =>
    intro x
    by_cases hy : y = 0
    · subst hy
      exact ⟨0, by show (x, 0) = _; rw [Nat.gcd_zero_right], fun i hi => absurd hi (Nat.not_lt_zero _)⟩
    · obtain ⟨n, h1, h2⟩ := ih (x % y) (Nat.mod_lt _ (Nat.pos_of_ne_zero hy)) y
      refine ⟨n + 1, ?_, fun i hi => ?_⟩
      · rw [eu_shift, h1, Nat.gcd_comm x y, Nat.gcd_rec y x]
        rw [Nat.gcd_comm]
      · cases i with
        | zero => exact Nat.pos_of_ne_zero hy
        | succ i =>
          rw [eu_shift]
          exact h2 i (by omega)
theorem fmod_nat (a b : Nat) : Int.fmod (a : Int) (b : Int) = ((a % b : Nat) : Int) := by
  rw [Int.fmod_eq_emod_of_nonneg _ (Int.natCast_nonneg b)]
  rfl
theorem absI_nat (a : Int) : absI a = (a.natAbs : Int) := by
  unfold absI
  split <;> omega
noncomputable def Bd (n : Nat) (a : Int) : Prop := a.natAbs < 2 ^ n
noncomputable def Sz (n : Nat) (p : Fr) : Prop := Bd n p.1 ∧ Bd n p.2
theorem Bd.mono {n m : Nat} {a : Int} (h : Bd n a) (l : n ≤ m) : Bd m a := Nat.lt_of_lt_of_le h (Nat.pow_le_pow_right (by decide) l)
theorem Sz.mono {n m : Nat} {p : Fr} (h : Sz n p) (l : n ≤ m) : Sz m p := ⟨h.1.mono l, h.2.mono l⟩
theorem Bd.mul {n m : Nat} {a b : Int} (ha : Bd n a) (hb : Bd m b) : Bd (n + m) (a * b) := wide_lt ha hb
theorem Bd.cm {n m : Nat} {a b : Int} (ha : Bd n a) (hb : Bd m b) (h : n + m + 2 ≤ 1000000) : CMulW a b :=
  wide_mul (ha.mono (Nat.le_succ n)) (hb.mono (Nat.le_succ m)) (Nat.succ_pos _) (Nat.succ_pos _) (by omega)
theorem Bd.add {n : Nat} {a b : Int} (ha : Bd n a) (hb : Bd n b) : Bd (n + 1) (a + b) := by
  unfold Bd at *
  rw [Nat.pow_succ]
  omega
theorem Bd.neg {n : Nat} {a : Int} (ha : Bd n a) : Bd n (-a) := by
  unfold Bd at *
  omega
theorem Bd.fdiv {n : Nat} {a : Int} (b : Int) (ha : Bd n a) : Bd n (a.fdiv b) := Nat.lt_of_le_of_lt (Int.natAbs_fdiv_le_natAbs a b) ha
theorem gN_le {n : Nat} {a b : Int} (ha : Bd n a) (hb : Bd n b) : gN a b ≤ 2 ^ n := qt_of (by simp (disch := with_unfolding_all
  unfold gN
  have h1 : 1 ≤ 2 ^ n := Nat.one_le_two_pow
  refine Nat.max_le.mpr ⟨?_, h1⟩
  by_cases h0 : a.natAbs = 0
  · rw [h0, Nat.gcd_zero_left]
    exact Nat.le_of_lt hb
  · exact Nat.le_trans (Nat.gcd_le_left _ (Nat.pos_of_ne_zero h0)) (Nat.le_of_lt ha)
  ) only [↓qt_eq])
theorem Bd.g {n : Nat} {a b : Int} (ha : Bd n a) (hb : Bd n b) : Bd (n + 1) (gI a b) := by
  have h := gN_le ha hb
  have h1 : 1 ≤ 2 ^ n := Nat.one_le_two_pow
  unfold Bd gI
  rw [Nat.pow_succ, Int.natAbs_natCast]
  omega
theorem Bd.dv {n : Nat} {i j : Int} (h0 : j ≠ 0) (h : Bd n j) (hn : n ≤ 8000) : CDvX i j := by
  refine ⟨h0, ?_⟩
  have h2 : j.natAbs < 2 ^ (n + 1) := h.mono (Nat.le_succ n)
  have := PySem.Flt.log2_lt_of (Nat.succ_pos n) h2
  omega
/-! ### gcd, the law's own and the program's -/
theorem max_gN (a b : Int) : maxI 1 (Nat.gcd a.natAbs b.natAbs : Nat) = gI a b := by
  unfold maxI gI gN
  rw [Nat.max_def]
  split <;> split <;> omega
theorem gN_max (a b : Int) : maxI (Nat.gcd a.natAbs b.natAbs : Nat) 1 = gI a b := by
  unfold maxI gI gN
  rw [Nat.max_def]
  split <;> split <;> omega
noncomputable def P_gcd : List PyData → PyData → Prop := fun ds r => ∃ a b : Int, ds = [.int a, .int b] ∧ r = .int (gI a b)
/-- above / below as the law makes it -/
noncomputable def fracF (a b : Int) : Fr := (a.fdiv (if b < 0 then -gI a b else gI a b), b.fdiv (if b < 0 then -gI a b else gI a b))
noncomputable def P_frac : List PyData → PyData → Prop := fun ds r => ∃ a b : Int, ds = [.int a, .int b] ∧ Bd 7990 a ∧ Bd 7990 b ∧ r = fr (fracF a b)
theorem Sz.frac {n : Nat} {a b : Int} (ha : Bd n a) (hb : Bd n b) : Sz n (fracF a b) := ⟨ha.fdiv _, hb.fdiv _⟩
noncomputable def addF (p q : Fr) : Fr := fracF (p.1 * q.2 + q.1 * p.2) (p.2 * q.2)
theorem Sz.add {n m : Nat} {p q : Fr} (hp : Sz n p) (hq : Sz m q) : Sz (n + m + 1) (addF p q) :=
  Sz.frac (Bd.add (hp.1.mul hq.2) (by rw [Nat.add_comm n m]; exact hq.1.mul hp.2)) ((hp.2.mul hq.2).mono (Nat.le_succ _))
noncomputable def P_add : List PyData → PyData → Prop := fun ds r => ∃ (n m : Nat) (p q : Fr), ds = [fr p, fr q] ∧ Sz n p ∧ Sz m q ∧ n + m ≤ 7800 ∧ r = fr (addF p q)
noncomputable def sgn (i : Int) : Int := (if decide (0 < i) then 1 else 0) - (if decide (i < 0) then 1 else 0)
noncomputable def P_sign : List PyData → PyData → Prop := fun ds r => ∃ a : Int, ds = [.int a] ∧ r = .int (sgn a)
noncomputable def cmpF (p q : Fr) : Int := sgn (p.1 * q.2 - q.1 * p.2)
noncomputable def P_cmp : List PyData → PyData → Prop := fun ds r => ∃ p q : Fr, ds = [fr p, fr q] ∧ Sz 1900 p ∧ Sz 1900 q ∧ r = .int (cmpF p q)
section
variable {K : Fg} {G G' G1 G2 : Gam} {s s1 s2 s3 s' : Bag} {ta tb tc te : TE} {t u : TT} {x y z : PyData} {E : XK}
theorem ev_fst {p : Fr} (h : EvG K te G s (fr p) s') : EvG K (tOp (rIx K) te (tC (.int 0))) G s (.int p.1) s' := ev_ixT h ev_int rfl
theorem ev_snd {p : Fr} (h : EvG K te G s (fr p) s') : EvG K (tOp (rIx K) te (tC (.int 1))) G s (.int p.2) s' := ev_ixT h ev_int rfl
theorem ev_gcd {a b : Int} (h1 : EvG K ta G s (.int a) s1) (h2 : EvG K tb G s1 (.int b) s2) : EvG K (tCall (spP K P_gcd) [] E (tCons ta (tCons tb tNil))) G s (.int (gI a b)) s2 :=
  ev_call (ea_cons h1 (ea_cons h2 ea_nil)) (fun _ => .nil) ⟨a, b, rfl, rfl⟩
theorem ev_frac {a b : Int} (h1 : EvG K ta G s (.int a) s1) (h2 : EvG K tb G s1 (.int b) s2) (ha : Bd 4000 a) (hb : Bd 4000 b) : EvG K (tCall (spP K P_frac) [] E (tCons ta (tCons tb tNil))) G s (fr (fracF a b)) s2 :=
  ev_call (ea_cons h1 (ea_cons h2 ea_nil)) (fun _ => .nil) ⟨a, b, rfl, ha.mono (by decide), hb.mono (by decide), rfl⟩
theorem ev_fracN {a b : Int} (h1 : EvG K ta G s (.int a) s1) (h2 : EvG K tb G s1 (.int b) s2) (ha : Bd 7990 a) (hb : Bd 7990 b) : EvG K (tCall (spP K P_frac) [] E (tCons ta (tCons tb tNil))) G s (fr (fracF a b)) s2 :=
  ev_call (ea_cons h1 (ea_cons h2 ea_nil)) (fun _ => .nil) ⟨a, b, rfl, ha, hb, rfl⟩
theorem ev_sign {a : Int} (h1 : EvG K ta G s (.int a) s1) : EvG K (tCall (spP K P_sign) [] E (tCons ta tNil)) G s (.int (sgn a)) s1 :=
  ev_call (ea_cons h1 ea_nil) (fun _ => .nil) ⟨a, rfl, rfl⟩
end
theorem less_none {K : Fg} {H : Hp} {a : Addr} {xs : List V} (h : SqL K H a xs) : SqL K (less H fun _ => False) a xs := ex_l (fun a o h => less_of (fun z => z) h) h
noncomputable def ordF (p q : Fr) : Int := b2i (decide (0 < p.1 * q.2 - q.1 * p.2)) - b2i (decide (p.1 * q.2 - q.1 * p.2 < 0))
theorem ev_ixDisp {K : Fg} {G : Gam} {s s1 s2 : Bag} {ta : TA} {tb : TE} {xs : List PyData} {x : PyData} {i : Int} (h : EvA K ta G s xs s1) (hl : xs.length ≤ 16000000) (hb : EvG K tb G s1 (.int i) s2) (he : atI xs i = some x) : EvG K (tOp (rIx K) (tLst ta) tb) G s x s2 := ev_ixL (ev_lst h hl) hb he
/-! ### draws -/
noncomputable def cellOf (s : Bag) : Int := if s.cs.length = 0 then 0 else s.cs.getD (s.i.fmod s.cs.length).toNat 0
noncomputable def pull (s : Bag) (n : Int) : Int × Bag :=
  if 0 < s.cs.length ∧ 1000000000000000000 ≤ absI (cellOf s) then ((cellOf s).fmod n, ⟨s.cs.set (s.i.fmod s.cs.length).toNat ((cellOf s).fdiv n), s.i, s.j⟩)
  else
    let j := (s.j * 48271 + (cellOf s).fmod 1000003 + (s.i + 1)).fmod 2147483647
    ((((j * 69621 + j.fdiv 65536).fmod 2147483629).fdiv 32).fmod n, ⟨s.cs, s.i + 1, j⟩)
noncomputable def pullV (s : Bag) (n : Int) : Int := (pull s n).1
noncomputable def pullS (s : Bag) (n : Int) : Bag := (pull s n).2
theorem fmod_range (a : Int) {n : Int} (h : 0 < n) : 0 ≤ a.fmod n ∧ a.fmod n < n := by
  rw [Int.fmod_eq_emod_of_nonneg _ (Int.le_of_lt h)]
  exact ⟨Int.emod_nonneg _ (by omega), Int.emod_lt_of_pos _ h⟩
theorem pullV_range (s : Bag) {n : Int} (h : 0 < n) : 0 ≤ pullV s n ∧ pullV s n < n := by
  unfold pullV pull
  split
  · exact fmod_range _ h
  · exact fmod_range _ h
theorem pullS_ok {s : Bag} (n : Int) (h : s.ok) : (pullS s n).ok := qt_of (by simp (disch := with_unfolding_all
  obtain ⟨h1, h2, h3⟩ := h
  unfold pullS pull
  split
  · exact ⟨by show (List.set _ _ _).length ≤ 63; rw [List.length_set]; exact h1, h2, h3⟩
  · have := fmod_range (s.j * 48271 + (cellOf s).fmod 1000003 + (s.i + 1)) (n := 2147483647) (by decide)
    exact ⟨h1, this.1, this.2⟩
  ) only [↓qt_eq])
noncomputable def P_pull : Bag → List PyData → PyData → Bag → Prop := fun s ds r s' => ∃ n : Int, ds = [.int n] ∧ 0 < n ∧ n < 1000000000000 ∧ r = .int (pullV s n) ∧ s' = pullS s n
section
variable {K : Fg} {G G' G1 G2 : Gam} {s s1 s2 s3 s' : Bag} {ta tb tc te : TE} {t u : TT} {x y z : PyData} {E : XK}
theorem ev_pull {i : Nat} {n : Int} (hi : G[i]? = some .bag) (h : EvG K ta G s (.int n) s1) (h0 : 0 < n) (h1 : n < 1000000000000) : EvG K (tCall (spB K P_pull) [] E (tCons (tVar i) (tCons ta tNil))) G s (.int (pullV s1 n)) (pullS s1 n) :=
  ev_callB hi (ea_cons h ea_nil) ⟨n, rfl, h0, h1, rfl, rfl⟩
end
/-! ### drawn numbers -/
noncomputable def menu (l : List Int) (i : Int) : Int := l.getD i.toNat 0
theorem menu_at {l : List Int} {i : Int} (h0 : 0 ≤ i) (h1 : i < l.length) : atI (l.map PyData.int) i = some (.int (menu l i)) := qt_of (by simp (disch := with_unfolding_all
  obtain ⟨j, rfl⟩ : ∃ j : Nat, i = (j : Int) := ⟨i.toNat, by omega⟩
  have hj : j < l.length := by omega
  refine atI_nat ?_
  unfold menu
  rw [List.getElem?_map, List.getElem?_eq_getElem hj, Int.toNat_natCast, List.getD_eq_getElem?_getD, List.getElem?_eq_getElem hj]
  rfl
  ) only [↓qt_eq])
theorem menu_mem {l : List Int} {i : Int} (h0 : 0 ≤ i) (h1 : i < l.length) : menu l i ∈ l := qt_of (by simp (disch := with_unfolding_all
  obtain ⟨j, rfl⟩ : ∃ j : Nat, i = (j : Int) := ⟨i.toNat, by omega⟩
  have hj : j < l.length := by omega
  unfold menu
  rw [Int.toNat_natCast, List.getD_eq_getElem?_getD, List.getElem?_eq_getElem hj]
  exact List.getElem_mem hj
  ) only [↓qt_eq])
noncomputable def partOf (s : Bag) : Fr := fracF (pullV s 13 - 6) (menu [1, 1, 2, 3] (pullV (pullS s 13) 4))
noncomputable def partS (s : Bag) : Bag := pullS (pullS s 13) 4
noncomputable def P_part : Bag → List PyData → PyData → Bag → Prop := fun s ds r s' => ds = [] ∧ r = fr (partOf s) ∧ s' = partS s
noncomputable def farOf (s : Bag) : Int := menu [0, 1, -1, 1000000000007, -1000000003, 2305843009213693952] (pullV s 6) + pullV (pullS s 6) 5 - 2
noncomputable def farS (s : Bag) : Bag := pullS (pullS s 6) 5
noncomputable def P_far : Bag → List PyData → PyData → Bag → Prop := fun s ds r s' => ds = [] ∧ r = .int (farOf s) ∧ s' = farS s
noncomputable def farPartOf (s : Bag) : Fr := fracF (farOf s) (1 + absI (farOf (farS s)))
noncomputable def farPartS (s : Bag) : Bag := farS (farS s)
noncomputable def P_farPart : Bag → List PyData → PyData → Bag → Prop := fun s ds r s' => ds = [] ∧ r = fr (farPartOf s) ∧ s' = farPartS s
theorem ev_b0 {K : Fg} {G : Gam} {s s' : Bag} {x : PyData} {E : XK} {i : Nat} {P : Bag → List PyData → PyData → Bag → Prop} (hi : G[i]? = some .bag) (hp : P s [] x s') : EvG K (tCall (spB K P) [] E (tCons (tVar i) tNil)) G s x s' := ev_callB hi ea_nil hp
theorem ev_part {K : Fg} {G : Gam} {s : Bag} {E : XK} {i : Nat} (hi : G[i]? = some .bag) : EvG K (tCall (spB K P_part) [] E (tCons (tVar i) tNil)) G s (fr (partOf s)) (partS s) := ev_b0 hi ⟨rfl, rfl, rfl⟩
theorem ev_far {K : Fg} {G : Gam} {s : Bag} {E : XK} {i : Nat} (hi : G[i]? = some .bag) : EvG K (tCall (spB K P_far) [] E (tCons (tVar i) tNil)) G s (.int (farOf s)) (farS s) := ev_b0 hi ⟨rfl, rfl, rfl⟩
theorem farOf_bd (s : Bag) : Bd 62 (farOf s) := qt_of (by simp (disch := with_unfolding_all
  obtain ⟨z1, z2⟩ := pullV_range s (n := 6) (by decide)
  obtain ⟨y1, y2⟩ := pullV_range (pullS s 6) (n := 5) (by decide)
  have hm := menu_mem (l := [0, 1, -1, 1000000000007, -1000000003, 2305843009213693952]) z1 z2
  unfold farOf
  generalize menu _ _ = m at hm
  generalize pullV (pullS s 6) 5 = y at *
  simp only [List.mem_cons, List.mem_singleton, List.not_mem_nil, or_false] at hm
  unfold Bd
  omega
  ) only [↓qt_eq])
theorem partOf_sz (s : Bag) : Sz 10 (partOf s) := qt_of (by simp (disch := with_unfolding_all
  obtain ⟨z1, z2⟩ := pullV_range s (n := 13) (by decide)
  obtain ⟨y1, y2⟩ := pullV_range (pullS s 13) (n := 4) (by decide)
  have hm := menu_mem (l := [1, 1, 2, 3]) y1 y2
  unfold partOf
  generalize menu _ _ = m at hm
  generalize pullV s 13 = y at *
  simp only [List.mem_cons, List.mem_singleton, List.not_mem_nil, or_false] at hm
  refine Sz.frac ?_ ?_
  · unfold Bd; omega
  · unfold Bd; omega
  ) only [↓qt_eq])
theorem farPartOf_sz (s : Bag) : Sz 63 (farPartOf s) := qt_of (by simp (disch := with_unfolding_all
  have h1 := farOf_bd s
  have h2 := farOf_bd (farS s)
  unfold farPartOf
  generalize farOf s = x at *
  generalize farOf (farS s) = y at *
  refine Sz.frac (h1.mono (by decide)) ?_
  unfold Bd absI at *
  split <;> omega
  ) only [↓qt_eq])
theorem partS_ok {s : Bag} (h : s.ok) : (partS s).ok := pullS_ok _ (pullS_ok _ h)
theorem farS_ok {s : Bag} (h : s.ok) : (farS s).ok := pullS_ok _ (pullS_ok _ h)
theorem farPartS_ok {s : Bag} (h : s.ok) : (farPartS s).ok := farS_ok (farS_ok h)
/-! ### alike: what is asked of a thing and itself -/
mutual
noncomputable def okD : Nat → PyData → Bool
  | _, .none => true
  | _, .bool _ => true
  | _, .int _ => true
  | _, .str _ => true
  | 0, .list _ => false
  | 0, .tuple _ => false
  | n + 1, .list xs => decide (xs.length ≤ 1000000) && okAll n xs
  | n + 1, .tuple xs => decide (xs.length ≤ 1000000) && okAll n xs
  | _, .dict _ => false
noncomputable def okAll : Nat → List PyData → Bool
  | _, [] => true
  | n, x :: xs => okD n x && okAll n xs
end
theorem okAll_get : ∀ {n : Nat} {xs : List PyData} {i : Nat} {x : PyData}, okAll n xs = true → xs[i]? = some x → okD n x = true
  | _, [], _, _, _, h => by simp at h
  | n, y :: xs, 0, x, h, e => by
    have e := Option.some.inj e
    subst e
    unfold okAll at h
    exact (Bool.and_eq_true_iff.mp h).1
  | n, y :: xs, i + 1, x, h, e => by
    unfold okAll at h
    exact okAll_get (i := i) (Bool.and_eq_true_iff.mp h).2 e
noncomputable def P_like : Nat → List PyData → PyData → Prop
  | 0 => fun _ _ => False
  | n + 1 => fun ds r => ∃ x : PyData, ds = [x, x] ∧ okD n x = true ∧ r = .bool true
section
variable {K : Fg} {G G' G1 G2 : Gam} {s s1 s2 s3 s' : Bag} {ta tb tc te : TE} {t u : TT} {x y z : PyData} {E : XK}
theorem ev_like {n : Nat} (h1 : EvG K ta G s x s1) (h2 : EvG K tb G s1 y s2) (e : x = y) (hx : okD n y = true) : EvG K (tCall (spP K (P_like (n + 1))) [] E (tCons ta (tCons tb tNil))) G s (.bool true) s2 := by
  subst e
  exact ev_call (ea_cons h1 (ea_cons h2 ea_nil)) (fun _ => .nil) ⟨x, rfl, hx, rfl⟩
end
end U

end
section
namespace U
open PySem PyProof.Rows L2 Evl
/-! what plain data are -/
theorem okD_sh (n : Nat) : ∀ x : PyData, okD n x = true → x.depth ≤ n ∧ PyData.eqv x x = true := qt_of (by simp (disch := with_unfolding_all
  induction n with
  | zero =>
    intro x h
    cases x with
    | none => exact ⟨Nat.le_refl _, rfl⟩
    | bool b => exact ⟨Nat.le_refl _, by show (b == b) = true; simp⟩
    | int i => exact ⟨Nat.le_refl _, by show (i == i) = true; simp⟩
    | str s => exact ⟨Nat.le_refl _, by show (s == s) = true; simp⟩
    | list xs => cases h
    | tuple xs => cases h
    | dict xs => cases h
  | succ n ih =>
    have all : ∀ xs : List PyData, okAll n xs = true → PyData.depthAll xs ≤ n ∧ PyData.eqvAll xs xs = true := fun xs => by
      induction xs with
      | nil => exact fun _ => ⟨Nat.zero_le _, rfl⟩
      | cons a l ih2 =>
        intro h
        unfold okAll at h
        obtain ⟨h1, h2⟩ := Bool.and_eq_true_iff.mp h
        obtain ⟨a2, a3⟩ := ih a h1
        obtain ⟨b2, b3⟩ := ih2 h2
        refine ⟨?_, ?_⟩
        · show max a.depth (PyData.depthAll l) ≤ n
          exact Nat.max_le.mpr ⟨a2, b2⟩
        · show (PyData.eqv a a && PyData.eqvAll l l) = true
          rw [a3, b3]; rfl
    intro x h
    cases x with
    | none => exact ⟨Nat.zero_le _, rfl⟩
    | bool b => exact ⟨Nat.zero_le _, by show (b == b) = true; simp⟩
    | int i => exact ⟨Nat.zero_le _, by show (i == i) = true; simp⟩
    | str s => exact ⟨Nat.zero_le _, by show (s == s) = true; simp⟩
    | list xs =>
      unfold okD at h
      obtain ⟨h1, h2⟩ := Bool.and_eq_true_iff.mp h
      obtain ⟨b2, b3⟩ := all xs h2
      exact ⟨Nat.succ_le_succ b2, b3⟩
    | tuple xs =>
      unfold okD at h
      obtain ⟨h1, h2⟩ := Bool.and_eq_true_iff.mp h
      obtain ⟨b2, b3⟩ := all xs h2
      exact ⟨Nat.succ_le_succ b2, b3⟩
    | dict xs => cases h
  ) only [↓qt_eq])
theorem canAll_of : ∀ {xs : List PyData}, (∀ x ∈ xs, x.canLay0 = true) → PyData.canLayAll0 xs = true
  | [], _ => rfl
  | x :: xs, h => by
    show (x.canLay0 && PyData.canLayAll0 xs) = true
    rw [h x (List.mem_cons_self ..), canAll_of fun y hy => h y (List.mem_cons_of_mem _ hy)]
    rfl
theorem can_list {xs : List PyData} (h : ∀ x ∈ xs, x.canLay0 = true) : (PyData.list xs).canLay0 = true := canAll_of h
theorem can_tup {xs : List PyData} (h : ∀ x ∈ xs, x.canLay0 = true) : (PyData.tuple xs).canLay0 = true := canAll_of h
theorem can_fr (p : Fr) : (fr p).canLay0 = true := rfl
theorem can_frs (ps : List Fr) : (PyData.tuple (ps.map fr)).canLay0 = true := can_tup fun x hx => by
  obtain ⟨p, _, rfl⟩ := List.mem_map.mp hx
  exact can_fr p
theorem shaped_ok {n : Nat} {x : PyData} (h1 : x.canLay0 = true) (h : okD n x = true) (hn : n ≤ 60) : SeqAt.shaped x = true := by
  obtain ⟨h2, _⟩ := okD_sh n x h
  unfold SeqAt.shaped
  rw [h1, decide_eq_true (show x.depth ≤ 64 by omega)]
  rfl
theorem eqv_self {n : Nat} {x : PyData} (h : okD n x = true) : PyData.eqv x x = true := (okD_sh n x h).2
theorem okAll_of {n : Nat} : ∀ {xs : List PyData}, (∀ x ∈ xs, okD n x = true) → okAll n xs = true
  | [], _ => rfl
  | x :: xs, h => by
    unfold okAll
    rw [h x (List.mem_cons_self ..), okAll_of fun y hy => h y (List.mem_cons_of_mem _ hy)]
    rfl
theorem okD_list {n : Nat} {xs : List PyData} (hl : xs.length ≤ 1000000) (h : ∀ x ∈ xs, okD n x = true) : okD (n + 1) (.list xs) = true := by
  unfold okD
  rw [decide_eq_true hl, okAll_of h]
  rfl
theorem okD_tup {n : Nat} {xs : List PyData} (hl : xs.length ≤ 1000000) (h : ∀ x ∈ xs, okD n x = true) : okD (n + 1) (.tuple xs) = true := by
  unfold okD
  rw [decide_eq_true hl, okAll_of h]
  rfl
theorem okD_fr (n : Nat) (p : Fr) : okD (n + 1) (fr p) = true := by cases n <;> rfl
theorem okD_frs {n : Nat} {ps : List Fr} (hl : ps.length ≤ 1000000) : okD (n + 2) (.tuple (ps.map fr)) = true := okD_tup (by rw [List.length_map]; exact hl) fun x hx => by
  obtain ⟨p, _, rfl⟩ := List.mem_map.mp hx
  exact okD_fr n p
end U

end
section
namespace U
open PySem PyProof.Rows L2 Evl
section
variable {X : Cx}
end
section
variable {K : Fg} {G G1 G2 : Gam} {s s1 s2 s3 s' : Bag} {ta tb tc te : TE} {t u : TT} {x y z : PyData}
theorem dpa_nil {H : Hp} {vs : List V} {xs : List PyData} (h : DpAll K H vs xs) : vs = [] ↔ xs = [] := by
  cases h with
  | nil => simp
  | cons _ _ => simp
theorem cutD_whole {xs : List PyData} {lo hi : Option Int} (h : HT.sIx xs.length 0 lo = 0 ∧ HT.sIx xs.length xs.length hi = xs.length) : cutD xs lo hi = xs := by
  unfold cutD
  rw [h.1, h.2, List.drop_zero, Nat.sub_zero, List.take_length]
end
end U

end
section
namespace U
open PySem PyProof.Rows L2 Evl
section
variable {K : Fg} {G G1 G2 : Gam} {s s1 s2 s3 s' : Bag} {ta tb tc te : TE} {t u : TT} {x y z : PyData}
/-! ### in, not in: whole numbers -/
/-! ### zip -/
/-! ### a comprehension that draws -/
noncomputable def itB (N : Bag → Bag) : Nat → Bag → Bag
  | 0, s => s
  | n + 1, s => N (itB N n s)
noncomputable def drawn (F : Bag → PyData) (N : Bag → Bag) (n : Nat) (s : Bag) : List PyData := (List.range n).map fun i => F (itB N i s)
theorem ev_lcDraw {wi : TI} {g : TG} {vs : List Nat} {ds : List PyData} (h : Src K wi G s ds s1) (F : Bag → PyData) (N : Bag → Bag) (hu : ∀ i e, i ∈ vs → G[i]? = some e → e = .un) (hz : ds.length ≤ 16000000)
    (hs : ∀ x s, x ∈ ds → ∃ Gt, Tgt K g vs G x Gt ∧ EvG K te Gt s (F s) (N s)) : EvG K (tLc wi g tYes te vs) G s (.list (drawn F N ds.length s1)) (itB N ds.length s1) := qt_of (by simp (disch := with_unfolding_all
  have k := ev_lc (K := K) (te := te) (tt := tYes) h (fun i => some (F (itB N i s1))) (fun i => itB N i s1) rfl hu hz fun i x hx => by
    obtain ⟨Gt, a, b⟩ := hs x (itB N i s1) (List.mem_of_getElem? hx)
    exact ⟨Gt, _, a, et_yes, fun y hy => by cases hy; exact b, fun hn => by cases hn⟩
  have e : (List.range ds.length).filterMap (fun i => some (F (itB N i s1))) = drawn F N ds.length s1 := by
    unfold drawn
    exact congrFun List.filterMap_eq_map' _
  rw [e] at k
  exact k
  ) only [↓qt_eq])
end
end U

end
section
namespace U
open PySem PyProof.Rows L2 Evl
local macro_rules | `(tactic| walk_at "ev1a") => do
  let a ← ("ev_ixDisp ev_fst ev_snd ev_add ev_sub ev_mul ev_fdiv ev_mod ev_pow ev_lt ev_le ev_gt ev_ge ev_eqI ev_neI ev_neg ev_subB ev_isNo ev_noNo ev_not et_test et_B et_not ev_abs ev_max ev_min ev_intB ev_gcd ev_frac ev_fadd ev_sign ev_cmpF".splitOn " ").mapM fun (n : String) => `(tacticSeq| with_reducible apply $(Lean.mkIdent n.toName):ident)
  let b := a.toArray
  `(tactic| first $[| $b:tacticSeq]*)
local macro_rules | `(tactic| walk_at "ev1b") => do
  let a ← ("ev_like ev_tup ev_lst ea_cons eo_some ev_order".splitOn " ").mapM fun (n : String) => `(tacticSeq| with_reducible apply $(Lean.mkIdent n.toName):ident)
  let b := a.toArray
  `(tactic| first $[| $b:tacticSeq]*)
local macro_rules | `(tactic| walk_at "ev1") => `(tactic| first
  | exact ev_int | exact ev_bl | exact ev_str | exact ev_non | exact ev_var rfl | exact ea_nil | exact eo_none
  | walk_at "ev1a"
  | with_reducible apply ev_pull rfl
  | walk_at "ev1b"
  | exact ev_part rfl | exact ev_far rfl | exact ev_farPart rfl
  | (with_reducible show List.length _ ≤ 16000000; (simp; done)) | (with_reducible show (0 : Int) < _; decide) | (with_reducible show (_ : Int) < 1000000000000; decide) | (with_reducible show CPow _ _; (unfold CPow; decide)) | (with_reducible show CNz _ _; (unfold CNz; decide))
  | with_reducible apply sg_ret | with_reducible apply sg_asg | with_reducible apply sg_next)
local macro_rules | `(tactic| walk_at "ln") => `(tactic| first | walk_at "ev1" | with_reducible apply sg_seq)
section

section
variable {K : Fg}
-- slots of order: 0 one, 1 other, 2 gap
noncomputable def t__law_gcd (K : Fg) : TS := (tSeq (tAsg (tCB rAbs (tCons (tVar 0) tNil)) (gName 0))
  (tSeq (tAsg (tCB rAbs (tCons (tVar 1) tNil)) (gName 1))
  (tSeq (tWhile (tTest (tOp (rI0 fun i j => V.bl (decide (j < i))) (tVar 1) (tC (V.int 0)))) (tSeq (tAsg (tVar 1) (gName 2))
  (tSeq (tAsg (tOp (rI CNz fun i j => V.int (i.fmod j)) (tVar 0) (tVar 1)) (gName 1))
  (tAsg (tVar 2) (gName 0)))))
  (tRet (tCB rMx (tCons (tC (V.int 1)) (tCons (tVar 0) tNil)))))))
-- slots of _law_gcd: 0 _law_one, 1 _law_other, 2 _law_kept
theorem ln__law_gcd : ∀ ds r, P_gcd ds r → ds.length = 2 := fun ds r h => by obtain ⟨p, q, rfl, _⟩ := h; rfl
theorem rd__law_gcd {ds r} (h : P_gcd ds r) (b : Bag) : SG K (t__law_gcd K) (frame 3 ds) b (.rt r b) := qt_of (by simp (disch := with_unfolding_all
  obtain ⟨x, y, rfl, rfl⟩ := h
  unfold t__law_gcd
  obtain ⟨n, h1, h2⟩ := eu_end y.natAbs x.natAbs
  apply sg_is
  apply sg_seq
  (repeat' walk_at "ev1")
  apply sg_seq
  (repeat' walk_at "ev1")
  apply sg_seq
  · refine sg_while (s' := b) (fun i => [.d (.int (eu x.natAbs y.natAbs i).1), .d (.int (eu x.natAbs y.natAbs i).2), .un]) (fun _ => b) (fun _ => b) n ?_ rfl (fun i hi => ?_) (fun i hi => .inl ?_) ?_
    · show Wk [.d (.int (absI x)), .d (.int (absI y)), .un] _
      rw [absI_nat, absI_nat]
      exact .refl _
    · refine et_is (by (repeat' walk_at "ev1")) ?_
      have := h2 i hi
      simp; omega
    · have hy := h2 i hi
      refine sg_wk (G1 := [.d (.int (eu x.natAbs y.natAbs (i + 1)).1), .d (.int (eu x.natAbs y.natAbs (i + 1)).2), .d (.int (eu x.natAbs y.natAbs i).2)]) ?_ (.cons (.cons (.drop .nil)))
      apply sg_is
      (repeat' walk_at "ln")
      · show ((eu x.natAbs y.natAbs i).2 : Int) ≠ 0
        omega
      · rw [fmod_nat]
        rfl
    · refine et_is (by (repeat' walk_at "ev1")) ?_
      rw [h1]
      rfl
  · rw [h1]
    (repeat' walk_at "ev1")
  · show Out.rt (.int (maxI 1 _)) b = _
    rw [max_gN]
  ) only [↓qt_eq])
noncomputable def t__law_frac (K : Fg) : TS := (tSeq (tAsg (tCall (spP K P_gcd) [] E0 (tCons (tVar 0) (tCons (tVar 1) tNil))) (gName 2))
  (tSeq (tIfS (tTest (tOp (rI0 fun i j => V.bl (decide (i < j))) (tVar 1) (tC (V.int 0)))) (tAsg (tUn (rU fun i => V.int (-i)) (tVar 2)) (gName 2)) tNext)
  (tRet (tTup (tCons (tOp (rI CDvX fun i j => V.int (i.fdiv j)) (tVar 0) (tVar 2)) (tCons (tOp (rI CDvX fun i j => V.int (i.fdiv j)) (tVar 1) (tVar 2)) tNil))))))
-- slots of _law_frac: 0 _law_above, 1 _law_below, 2 _law_divisor
theorem ln__law_frac : ∀ ds r, P_frac ds r → ds.length = 2 := fun ds r h => by obtain ⟨p, q, rfl, _⟩ := h; rfl
theorem rd__law_frac {ds r} (h : P_frac ds r) (b : Bag) : SG K (t__law_frac K) (frame 3 ds) b (.rt r b) := qt_of (by simp (disch := with_unfolding_all
  obtain ⟨x, y, rfl, hx, hy, rfl⟩ := h
  unfold t__law_frac
  have hg := gI_pos x y
  have hb : Bd 7991 (gI x y) := Bd.g hx hy
  apply sg_seq
  (repeat' walk_at "ev1")
  apply sg_when
  (repeat' walk_at "ev1")
  · intro h
    have h := of_decide_eq_true h
    apply sg_is
    (repeat' walk_at "ln")
    · exact Bd.dv (by omega) hb.neg (by decide)
    · exact Bd.dv (by omega) hb.neg (by decide)
    · show Out.rt (fr (x.fdiv (-gI x y), y.fdiv (-gI x y))) b = Out.rt (fr (fracF x y)) b
      unfold fracF
      rw [if_pos h]
  · intro h
    have h := of_decide_eq_false h
    apply sg_is
    (repeat' walk_at "ln")
    · exact Bd.dv (by omega) hb (by decide)
    · exact Bd.dv (by omega) hb (by decide)
    · show Out.rt (fr (x.fdiv (gI x y), y.fdiv (gI x y))) b = Out.rt (fr (fracF x y)) b
      unfold fracF
      rw [if_neg h]
  ) only [↓qt_eq])
noncomputable def t__law_add (K : Fg) : TS := (tRet (tCall (spP K P_frac) [] E0 (tCons (tOp (rI0 fun i j => V.int (i + j)) (tOp (rI CMulW fun i j => V.int (i * j)) (tOp (rIx K) (tVar 0) (tC (V.int 0))) (tOp (rIx K) (tVar 1) (tC (V.int 1)))) (tOp (rI CMulW fun i j => V.int (i * j)) (tOp (rIx K) (tVar 1) (tC (V.int 0))) (tOp (rIx K) (tVar 0) (tC (V.int 1))))) (tCons (tOp (rI CMulW fun i j => V.int (i * j)) (tOp (rIx K) (tVar 0) (tC (V.int 1))) (tOp (rIx K) (tVar 1) (tC (V.int 1)))) tNil))))
-- slots of _law_add: 0 _law_one, 1 _law_other
theorem ln__law_add : ∀ ds r, P_add ds r → ds.length = 2 := fun ds r h => by obtain ⟨_, _, p, q, rfl, _⟩ := h; rfl
theorem rd__law_add {ds r} (h : P_add ds r) (b : Bag) : SG K (t__law_add K) (frame 2 ds) b (.rt r b) := qt_of (by simp (disch := with_unfolding_all
  obtain ⟨n, m, p, q, rfl, hp, hq, hl, rfl⟩ := h
  exact sg_ret (ev_fracN (ev_add (ev_mul (ev_fst (ev_var rfl)) (ev_snd (ev_var rfl)) (hp.1.cm hq.2 (by omega))) (ev_mul (ev_fst (ev_var rfl)) (ev_snd (ev_var rfl)) (hq.1.cm hp.2 (by omega)))) (ev_mul (ev_snd (ev_var rfl)) (ev_snd (ev_var rfl)) (hp.2.cm hq.2 (by omega)))
    ((Bd.add (hp.1.mul hq.2) (by rw [Nat.add_comm n m]; exact hq.1.mul hp.2)).mono (by omega)) ((hp.2.mul hq.2).mono (by omega)))
  ) only [↓qt_eq])
noncomputable def t__law_sign (K : Fg) : TS := (tRet (tOp (rI0 fun i j => V.int (i - j)) (tCB rInt1 (tCons (tOp (rI0 fun i j => V.bl (decide (j < i))) (tVar 0) (tC (V.int 0))) tNil)) (tCB rInt1 (tCons (tOp (rI0 fun i j => V.bl (decide (i < j))) (tVar 0) (tC (V.int 0))) tNil))))
-- slots of _law_sign: 0 _law_number
theorem ln__law_sign : ∀ ds r, P_sign ds r → ds.length = 1 := fun ds r h => by obtain ⟨p, rfl, _⟩ := h; rfl
theorem rd__law_sign {ds r} (h : P_sign ds r) (b : Bag) : SG K (t__law_sign K) (frame 1 ds) b (.rt r b) := by
  obtain ⟨p, rfl, rfl⟩ := h
  unfold t__law_sign
  apply sg_is
  (repeat' walk_at "ln")
  rfl
noncomputable def t__law_cmp (K : Fg) : TS := (tRet (tCall (spP K P_sign) [] E0 (tCons (tOp (rI0 fun i j => V.int (i - j)) (tOp (rI CMulW fun i j => V.int (i * j)) (tOp (rIx K) (tVar 0) (tC (V.int 0))) (tOp (rIx K) (tVar 1) (tC (V.int 1)))) (tOp (rI CMulW fun i j => V.int (i * j)) (tOp (rIx K) (tVar 1) (tC (V.int 0))) (tOp (rIx K) (tVar 0) (tC (V.int 1))))) tNil)))
-- slots of _law_cmp: 0 _law_one, 1 _law_other
theorem ln__law_cmp : ∀ ds r, P_cmp ds r → ds.length = 2 := fun ds r h => by obtain ⟨p, q, rfl, _⟩ := h; rfl
theorem rd__law_cmp {ds r} (h : P_cmp ds r) (b : Bag) : SG K (t__law_cmp K) (frame 2 ds) b (.rt r b) := by
  obtain ⟨p, q, rfl, hp, hq, rfl⟩ := h
  unfold t__law_cmp
  apply sg_is
  (repeat' walk_at "ln")
  all_goals first | exact Bd.cm hp.1 hq.2 (by decide) | exact Bd.cm hq.1 hp.2 (by decide) | rfl
noncomputable def t__law_part (K : Fg) : TS := (tRet (tCall (spP K P_frac) [] E0 (tCons (tOp (rI0 fun i j => V.int (i - j)) (tCall (spB K P_pull) [] E0 (tCons (tVar 0) (tCons (tC (V.int 13)) tNil))) (tC (V.int 6))) (tCons (tOp (rIx K) (tLst (tCons (tC (V.int 1)) (tCons (tC (V.int 1)) (tCons (tC (V.int 2)) (tCons (tC (V.int 3)) tNil))))) (tCall (spB K P_pull) [] E0 (tCons (tVar 0) (tCons (tC (V.int 4)) tNil)))) tNil))))
-- slots of _law_part: 0 _law_bag_here
theorem ln__law_part : ∀ s ds r s', P_part s ds r s' → ds.length + 1 = 1 := fun s ds r s' h => by obtain ⟨rfl, _⟩ := h; rfl
theorem rd__law_part {s ds r s'} (h : P_part s ds r s') (ok : s.ok) : SG K (t__law_part K) (.bag :: frame 0 ds) s (.rt r s') := qt_of (by simp (disch := with_unfolding_all
  obtain ⟨rfl, rfl, rfl⟩ := h
  unfold t__law_part
  obtain ⟨z1, z2⟩ := pullV_range s (n := 13) (by decide)
  obtain ⟨y1, y2⟩ := pullV_range (pullS s 13) (n := 4) (by decide)
  have hm := menu_mem (l := [1, 1, 2, 3]) y1 y2
  apply sg_is
  (repeat' walk_at "ln")
  all_goals first | exact menu_at (l := [1, 1, 2, 3]) y1 y2 | skip
  · unfold Bd; omega
  · refine Bd.mono (n := 10) ?_ (by decide)
    generalize menu _ _ = m at hm
    simp only [List.mem_cons, List.not_mem_nil, or_false] at hm
    unfold Bd; omega
  · rfl
  ) only [↓qt_eq])
noncomputable def t__law_far (K : Fg) : TS := (tRet (tOp (rI0 fun i j => V.int (i - j)) (tOp (rI0 fun i j => V.int (i + j)) (tOp (rIx K) (tLst (tCons (tC (V.int 0)) (tCons (tC (V.int 1)) (tCons (tUn (rU fun i => V.int (-i)) (tC (V.int 1))) (tCons (tOp (rI0 fun i j => V.int (i + j)) (tOp (rI CPow fun i j => V.int (i ^ j.toNat)) (tC (V.int 10)) (tC (V.int 12))) (tC (V.int 7))) (tCons (tOp (rI0 fun i j => V.int (i - j)) (tUn (rU fun i => V.int (-i)) (tOp (rI CPow fun i j => V.int (i ^ j.toNat)) (tC (V.int 10)) (tC (V.int 9)))) (tC (V.int 3))) (tCons (tOp (rI CPow fun i j => V.int (i ^ j.toNat)) (tC (V.int 2)) (tC (V.int 61))) tNil))))))) (tCall (spB K P_pull) [] E0 (tCons (tVar 0) (tCons (tC (V.int 6)) tNil)))) (tCall (spB K P_pull) [] E0 (tCons (tVar 0) (tCons (tC (V.int 5)) tNil)))) (tC (V.int 2))))
-- slots of _law_far: 0 _law_bag_here
theorem ln__law_far : ∀ s ds r s', P_far s ds r s' → ds.length + 1 = 1 := fun s ds r s' h => by obtain ⟨rfl, _⟩ := h; rfl
theorem rd__law_far {s ds r s'} (h : P_far s ds r s') (ok : s.ok) : SG K (t__law_far K) (.bag :: frame 0 ds) s (.rt r s') := qt_of (by simp (disch := with_unfolding_all
  obtain ⟨rfl, rfl, rfl⟩ := h
  unfold t__law_far
  obtain ⟨z1, z2⟩ := pullV_range s (n := 6) (by decide)
  apply sg_is
  (repeat' walk_at "ln")
  all_goals first | exact menu_at (l := [0, 1, -1, 1000000000007, -1000000003, 2305843009213693952]) z1 z2 | rfl
  ) only [↓qt_eq])
noncomputable def t__law_far_part (K : Fg) : TS := (tRet (tCall (spP K P_frac) [] E0 (tCons (tCall (spB K P_far) [] E0 (tCons (tVar 0) tNil)) (tCons (tOp (rI0 fun i j => V.int (i + j)) (tC (V.int 1)) (tCB rAbs (tCons (tCall (spB K P_far) [] E0 (tCons (tVar 0) tNil)) tNil))) tNil))))
-- slots of _law_far_part: 0 _law_bag_here
theorem ln__law_far_part : ∀ s ds r s', P_farPart s ds r s' → ds.length + 1 = 1 := fun s ds r s' h => by obtain ⟨rfl, _⟩ := h; rfl
theorem rd__law_far_part {s ds r s'} (h : P_farPart s ds r s') (ok : s.ok) : SG K (t__law_far_part K) (.bag :: frame 0 ds) s (.rt r s') := qt_of (by simp (disch := with_unfolding_all
  obtain ⟨rfl, rfl, rfl⟩ := h
  unfold t__law_far_part
  have h1 := farOf_bd s
  have h2 := farOf_bd (farS s)
  apply sg_is
  (repeat' walk_at "ln")
  · exact h1.mono (by decide)
  · refine Bd.mono (n := 63) ?_ (by decide)
    generalize farOf (farS s) = y at *
    unfold Bd absI at *
    split <;> omega
  · rfl
  ) only [↓qt_eq])
noncomputable def t__law_pull (K : Fg) : TS := (tSeq (tAsg (tOp (rIx K) (tVar 0) (tC (V.int 0))) (gName 2))
  (tSeq (tAsg (tC (V.int 0)) (gName 3))
  (tSeq (tIfS (tTest (tOp (rI0 fun i j => V.bl (decide (j < i))) (tCB (rLenQ K) (tCons (tVar 2) tNil)) (tC (V.int 0)))) (tSeq (tAsg (tOp (rI CNz fun i j => V.int (i.fmod j)) (tOp (rIx K) (tVar 0) (tC (V.int 1))) (tCB (rLenQ K) (tCons (tVar 2) tNil))) (gName 4))
  (tSeq (tAsg (tOp (rIx K) (tVar 2) (tVar 4)) (gName 3))
  (tIfS (tTest (tOp (rI0 fun i j => V.bl (decide (j ≤ i))) (tCB rAbs (tCons (tVar 3) tNil)) (tOp (rI CPow fun i j => V.int (i ^ j.toNat)) (tC (V.int 10)) (tC (V.int 18))))) (tSeq (tAsg (tOp (rI CDvX fun i j => V.int (i.fdiv j)) (tVar 3) (tVar 1)) (gSub (tVar 2) (tVar 4) rSetL))
  (tRet (tOp (rI CNz fun i j => V.int (i.fmod j)) (tVar 3) (tVar 1)))) tNext))) tNext)
  (tSeq (tAsg (tOp (rI0 fun i j => V.int (i + j)) (tOp (rIx K) (tVar 0) (tC (V.int 1))) (tC (V.int 1))) (gSub (tVar 0) (tC (V.int 1)) rSetL))
  (tSeq (tAsg (tOp (rI CNz fun i j => V.int (i.fmod j)) (tOp (rI0 fun i j => V.int (i + j)) (tOp (rI0 fun i j => V.int (i + j)) (tOp (rI CMulW fun i j => V.int (i * j)) (tOp (rIx K) (tVar 0) (tC (V.int 2))) (tC (V.int 48271))) (tOp (rI CNz fun i j => V.int (i.fmod j)) (tVar 3) (tC (V.int 1000003)))) (tOp (rIx K) (tVar 0) (tC (V.int 1)))) (tC (V.int 2147483647))) (gSub (tVar 0) (tC (V.int 2)) rSetL))
  (tRet (tOp (rI CNz fun i j => V.int (i.fmod j)) (tOp (rI CDvX fun i j => V.int (i.fdiv j)) (tOp (rI CNz fun i j => V.int (i.fmod j)) (tOp (rI0 fun i j => V.int (i + j)) (tOp (rI CMulW fun i j => V.int (i * j)) (tOp (rIx K) (tVar 0) (tC (V.int 2))) (tC (V.int 69621))) (tOp (rI CDvX fun i j => V.int (i.fdiv j)) (tOp (rIx K) (tVar 0) (tC (V.int 2))) (tC (V.int 65536)))) (tC (V.int 2147483629))) (tC (V.int 32))) (tVar 1))))))))
-- slots of _law_pull: 0 _law_bag_here, 1 _law_size, 2 _law_cells, 3 _law_cell, 4 _law_spot
theorem ln__law_pull : ∀ s ds r s', P_pull s ds r s' → ds.length + 1 = 2 := fun s ds r s' h => by obtain ⟨n, rfl, _⟩ := h; rfl
theorem bag_ne {H : Hp} {b c : Addr} {s : Bag} (h : BagAt H (some (b, c)) s) : b ≠ c := fun e => by
  have h1 := h.1
  have h2 := h.2.1
  rw [e, h2] at h1
  have h3 := HO.lst.inj (Option.some.inj h1)
  cases hc : s.cs with
  | nil => rw [hc] at h3; cases h3
  | cons x r => rw [hc] at h3; cases h3
theorem rd_pullTail {D : Ends} {H : Hp} {b c : Addr} {s : Bag} {cell n : Int} {x4 : Option V} (hB : BagAt H (some (b, c)) s) (h0 : 0 < n)
    (q : ∀ H', (∀ a o, H a = some o → ¬ InB (some (b, c)) a → H' a = some o) → BagAt H' (some (b, c)) ⟨s.cs, s.i + 1, (s.j * 48271 + cell.fmod 1000003 + (s.i + 1)).fmod 2147483647⟩ →
      D.rt (.int (((((s.j * 48271 + cell.fmod 1000003 + (s.i + 1)).fmod 2147483647) * 69621 + ((s.j * 48271 + cell.fmod 1000003 + (s.i + 1)).fmod 2147483647).fdiv 65536).fmod 2147483629).fdiv 32 |>.fmod n)) H') :
    (tSeq (tAsg (tOp (rI0 fun i j => V.int (i + j)) (tOp (rIx K) (tVar 0) (tC (V.int 1))) (tC (V.int 1))) (gSub (tVar 0) (tC (V.int 1)) rSetL))
  (tSeq (tAsg (tOp (rI CNz fun i j => V.int (i.fmod j)) (tOp (rI0 fun i j => V.int (i + j)) (tOp (rI0 fun i j => V.int (i + j)) (tOp (rI CMulW fun i j => V.int (i * j)) (tOp (rIx K) (tVar 0) (tC (V.int 2))) (tC (V.int 48271))) (tOp (rI CNz fun i j => V.int (i.fmod j)) (tVar 3) (tC (V.int 1000003)))) (tOp (rIx K) (tVar 0) (tC (V.int 1)))) (tC (V.int 2147483647))) (gSub (tVar 0) (tC (V.int 2)) rSetL))
  (tRet (tOp (rI CNz fun i j => V.int (i.fmod j)) (tOp (rI CDvX fun i j => V.int (i.fdiv j)) (tOp (rI CNz fun i j => V.int (i.fmod j)) (tOp (rI0 fun i j => V.int (i + j)) (tOp (rI CMulW fun i j => V.int (i * j)) (tOp (rIx K) (tVar 0) (tC (V.int 2))) (tC (V.int 69621))) (tOp (rI CDvX fun i j => V.int (i.fdiv j)) (tOp (rIx K) (tVar 0) (tC (V.int 2))) (tC (V.int 65536)))) (tC (V.int 2147483629))) (tC (V.int 32))) (tVar 1))))) D
    [some (.ref b), some (.int n), some (.ref c), some (.int cell), x4] H := qt_of (by simp (disch := with_unfolding_all
  obtain ⟨hb, hc, h1, h2, h3⟩ := id hB
  have nbc : b ≠ c := bag_ne hB
  have mulj : ∀ {x y : Int}, 0 ≤ x → x < 2147483647 → Bd 40 y → CMulW x y := fun {x y} a b c => Bd.cm (n := 31) (m := 40) (by unfold Bd; omega) c (by decide)
  generalize hj : (s.j * 48271 + cell.fmod 1000003 + (s.i + 1)).fmod 2147483647 = j at q
  have hjr : 0 ≤ j ∧ j < 2147483647 := by rw [← hj]; exact fmod_range _ (by decide)
  -- bag[1] = bag[1] + 1
  refine ⟨_, rfl, .inl ⟨b, _, 1, .int s.i, rfl, rfl, sq_of hb, rfl, _, _, rfl, rfl, _, rfl, b, _, 1, 1, rfl, rfl, hb, rfl, ?_⟩⟩
  -- bag[2] = ..
  refine ⟨_, rfl, .inl ⟨b, _, 2, .int s.j, rfl, rfl, sq_of upd_same, rfl, _, _, rfl, rfl, mulj h2 h3 (by unfold Bd; decide), _, rfl, _, _, rfl, rfl, (by show (1000003 : Int) ≠ 0; decide), _, _, rfl, rfl, _, rfl, .inl ⟨b, _, 1, .int (s.i + 1), rfl, rfl, sq_of upd_same, rfl, _, _, rfl, rfl, _, _, rfl, rfl, (by show (2147483647 : Int) ≠ 0; decide), _, rfl, b, _, 2, 2, rfl, rfl, upd_same, rfl, ?_⟩⟩⟩
  dsimp only
  rw [hj]
  -- return
  refine ⟨_, rfl, .inl ⟨b, _, 2, .int j, rfl, rfl, sq_of upd_same, rfl, _, _, rfl, rfl, mulj hjr.1 hjr.2 (by unfold Bd; decide), _, rfl, .inl ⟨b, _, 2, .int j, rfl, rfl, sq_of upd_same, rfl, _, _, rfl, rfl, ⟨by decide, by decide⟩, _, _, rfl, rfl, _, _, rfl, rfl, (by show (2147483629 : Int) ≠ 0; decide), _, _, rfl, rfl, ⟨by decide, by decide⟩, _, rfl, _, _, rfl, rfl, ?_, ?_⟩⟩⟩
  · show n ≠ 0
    omega
  · refine q _ (fun a o h z => ?_) ⟨upd_same, ?_, h1, hjr.1, hjr.2⟩
    · have na : a ≠ b := fun e => z ⟨b, c, rfl, .inl e⟩
      rw [upd_ne na, upd_ne na]; exact h
    · rw [upd_ne nbc.symm, upd_ne nbc.symm]; exact hc
  ) only [↓qt_eq])
theorem rd__law_pull {D : Ends} {W : Addr → Prop} {H : Hp} {b c : Addr} {s : Bag} {n : Int} (hB : BagAt H (some (b, c)) s) (h0 : 0 < n) (h1 : n < 1000000000000)
    (q : ∀ (v : V) (H' : Hp), (∀ (a : Addr) (o : HO), H a = some o → ¬InB (some (b, c)) a → H' a = some o) → BagAt H' (some (b, c)) (pullS s n) → Dp K (less H' fun a => W a ∨ InB (some (b, c)) a) v (PyData.int (pullV s n)) → D.rt v H') :
    t__law_pull K D [some (.ref b), some (.int n), none, none, none] H := qt_of (by simp (disch := with_unfolding_all
  obtain ⟨hb, hc, k1, k2, k3⟩ := id hB
  have nbc : b ≠ c := bag_ne hB
  unfold t__law_pull
  refine ⟨_, rfl, .inl ⟨b, _, 0, .ref c, rfl, rfl, sq_of hb, rfl, ?_⟩⟩
  have lc : SqL K H c (s.cs.map V.int) := sq_of hc
  refine ⟨_, rfl, c, _, rfl, .inl lc, _, _, rfl, rfl, _, rfl, ?_⟩
  rw [List.length_map]
  refine ite2 (fun h => ?_) (fun h => ?_)
  · have hl : 0 < s.cs.length := by have := of_decide_eq_true h; omega
    have hsp := fmod_range s.i (n := (s.cs.length : Int)) (by omega)
    obtain ⟨k, hk⟩ : ∃ k : Nat, s.i.fmod s.cs.length = (k : Int) := ⟨(s.i.fmod s.cs.length).toNat, by omega⟩
    have kl : k < s.cs.length := by omega
    have gk : (s.cs.map V.int)[k]? = some (.int s.cs[k]) := by rw [List.getElem?_map, List.getElem?_eq_getElem kl]; rfl
    have ec : cellOf s = s.cs[k] := by
      unfold cellOf
      rw [if_neg (by omega), hk, Int.toNat_natCast, List.getD_eq_getElem?_getD, List.getElem?_eq_getElem kl]
      rfl
    refine ⟨_, rfl, .inl ⟨b, _, 1, .int s.i, rfl, rfl, sq_of hb, rfl, _, rfl, c, _, rfl, .inl lc, _, _, rfl, rfl, ?_, ?_⟩⟩
    · show ((s.cs.map V.int).length : Int) ≠ 0
      rw [List.length_map]; omega
    rw [List.length_map]
    dsimp only
    rw [hk]
    refine ⟨_, rfl, _, rfl, .inl ⟨c, _, (k : Int), _, rfl, rfl, lc, atI_nat gk, ?_⟩⟩
    refine ⟨_, rfl, _, rfl, _, _, rfl, rfl, (by unfold CPow; decide), _, _, rfl, rfl, _, rfl, ?_⟩
    have e18 : (10 : Int) ^ (18 : Int).toNat = 1000000000000000000 := by decide
    rw [e18]
    refine ite2 (fun h2 => ?_) (fun h2 => ?_)
    · have hbig : 1000000000000000000 ≤ absI (cellOf s) := by
        rw [ec]; exact of_decide_eq_true h2
      have ep : pull s n = ((cellOf s).fmod n, ⟨s.cs.set k ((cellOf s).fdiv n), s.i, s.j⟩) := by
        unfold pull
        rw [if_pos ⟨hl, hbig⟩, hk, Int.toNat_natCast]
      refine ⟨_, rfl, _, rfl, _, _, rfl, rfl, ⟨by omega, ?_⟩, _, rfl, _, rfl, c, _, (k : Int), k, rfl, rfl, hc, ?_, ?_⟩
      · have : n.natAbs < 2 ^ 40 := by omega
        have := PySem.Flt.log2_lt_of (by decide) this
        omega
      · exact ixN_nat (by rw [List.length_map]; exact kl)
      · refine ⟨_, rfl, _, rfl, _, _, rfl, rfl, (by show n ≠ 0; omega), ?_⟩
        refine q _ _ (fun a o h z => ?_) ?_ ?_
        · rw [upd_ne (fun e => z ⟨b, c, rfl, .inr e⟩)]; exact h
        · unfold pullS
          rw [ep]
          refine ⟨by rw [upd_ne nbc]; exact hb, ?_, by rw [List.length_set]; exact k1, k2, k3⟩
          rw [upd_same, List.map_set, ec]
        · unfold pullV
          rw [ep, ec]
          exact .int _
    · have hbig : ¬ 1000000000000000000 ≤ absI (cellOf s) := fun z => h2 (decide_eq_true (by rw [ec] at z; exact z))
      refine rd_pullTail hB h0 fun H' e hB' => ?_
      have ep : pull s n = (((((s.j * 48271 + (cellOf s).fmod 1000003 + (s.i + 1)).fmod 2147483647) * 69621 + ((s.j * 48271 + (cellOf s).fmod 1000003 + (s.i + 1)).fmod 2147483647).fdiv 65536).fmod 2147483629).fdiv 32 |>.fmod n, ⟨s.cs, s.i + 1, (s.j * 48271 + (cellOf s).fmod 1000003 + (s.i + 1)).fmod 2147483647⟩) := by
        unfold pull
        rw [if_neg (fun z => hbig z.2)]
      refine q _ _ e ?_ ?_
      · unfold pullS
        rw [ep, ec]; exact hB'
      · unfold pullV
        rw [ep, ec]; exact .int _
  · have hl : s.cs.length = 0 := by
      have := of_decide_eq_false (eq_false_of_ne_true h)
      omega
    have ec : cellOf s = 0 := by unfold cellOf; rw [if_pos hl]
    refine rd_pullTail hB h0 fun H' e hB' => ?_
    have ep : pull s n = (((((s.j * 48271 + (cellOf s).fmod 1000003 + (s.i + 1)).fmod 2147483647) * 69621 + ((s.j * 48271 + (cellOf s).fmod 1000003 + (s.i + 1)).fmod 2147483647).fdiv 65536).fmod 2147483629).fdiv 32 |>.fmod n, ⟨s.cs, s.i + 1, (s.j * 48271 + (cellOf s).fmod 1000003 + (s.i + 1)).fmod 2147483647⟩) := by
      unfold pull
      rw [if_neg (fun z => by omega)]
    refine q _ _ e ?_ ?_
    · unfold pullS
      rw [ep, ec]; exact hB'
    · unfold pullV
      rw [ep, ec]; exact .int _
  ) only [↓qt_eq])
end

end
end U
end
section
namespace U
open PySem PyProof.Rows L2 Evl
theorem kit_NoneType_bool : kitB "NoneType" "bool" = some false := by decide +kernel
theorem kit_NoneType_int : kitB "NoneType" "int" = some false := by decide +kernel
theorem kit_NoneType_str : kitB "NoneType" "str" = some false := by decide +kernel
theorem kit_NoneType_list : kitB "NoneType" "list" = some false := by decide +kernel
theorem kit_NoneType_tuple : kitB "NoneType" "tuple" = some false := by decide +kernel
theorem kit_bool_bool : kitB "bool" "bool" = some true := by decide +kernel
theorem kit_bool_list : kitB "bool" "list" = some false := by decide +kernel
theorem kit_bool_tuple : kitB "bool" "tuple" = some false := by decide +kernel
theorem kit_int_bool : kitB "int" "bool" = some false := by decide +kernel
theorem kit_int_int : kitB "int" "int" = some true := by decide +kernel
theorem kit_int_list : kitB "int" "list" = some false := by decide +kernel
theorem kit_int_tuple : kitB "int" "tuple" = some false := by decide +kernel
theorem kit_str_bool : kitB "str" "bool" = some false := by decide +kernel
theorem kit_str_int : kitB "str" "int" = some false := by decide +kernel
theorem kit_str_str : kitB "str" "str" = some true := by decide +kernel
theorem kit_str_list : kitB "str" "list" = some false := by decide +kernel
theorem kit_str_tuple : kitB "str" "tuple" = some false := by decide +kernel
theorem kit_list_list : kitB "list" "list" = some true := by decide +kernel
theorem kit_list_tuple : kitB "list" "tuple" = some false := by decide +kernel
theorem kit_tuple_list : kitB "tuple" "list" = some false := by decide +kernel
theorem kit_tuple_tuple : kitB "tuple" "tuple" = some true := by decide +kernel
local macro_rules | `(tactic| walk_at "ev1a") => do
  let a ← ("ev_ixDisp ev_fst ev_snd ev_add ev_sub ev_mul ev_fdiv ev_mod ev_pow ev_lt ev_le ev_gt ev_ge ev_eqI ev_neI ev_neg ev_subB ev_isNo ev_noNo ev_not et_test et_B et_not ev_abs ev_max ev_min ev_intB ev_gcd ev_frac ev_fadd ev_sign ev_cmpF".splitOn " ").mapM fun (n : String) => `(tacticSeq| with_reducible apply $(Lean.mkIdent n.toName):ident)
  let b := a.toArray
  `(tactic| first $[| $b:tacticSeq]*)
local macro_rules | `(tactic| walk_at "ev1b") => do
  let a ← ("ev_like ev_tup ev_lst ea_cons eo_some ev_order".splitOn " ").mapM fun (n : String) => `(tacticSeq| with_reducible apply $(Lean.mkIdent n.toName):ident)
  let b := a.toArray
  `(tactic| first $[| $b:tacticSeq]*)
local macro_rules | `(tactic| walk_at "ev1") => `(tactic| first
  | exact ev_int | exact ev_bl | exact ev_str | exact ev_non | exact ev_var rfl | exact ea_nil | exact eo_none
  | walk_at "ev1a"
  | with_reducible apply ev_pull rfl
  | walk_at "ev1b"
  | exact ev_part rfl | exact ev_far rfl | exact ev_farPart rfl
  | (with_reducible show List.length _ ≤ 16000000; (simp; done)) | (with_reducible show (0 : Int) < _; decide) | (with_reducible show (_ : Int) < 1000000000000; decide) | (with_reducible show CPow _ _; (unfold CPow; decide)) | (with_reducible show CNz _ _; (unfold CNz; decide))
  | with_reducible apply sg_ret | with_reducible apply sg_asg | with_reducible apply sg_next)
local macro_rules | `(tactic| walk_at "ln") => `(tactic| first | walk_at "ev1" | with_reducible apply sg_seq)

section
variable {K : Fg}
theorem fnok_false {Pg : Program} {w : World} {mg : Str → Option Value} {base : Heap} {CX : CXT} {k : Nat} {f : Addr} {fd : FuncData} {ps : List Str} : FnOk Pg w K mg base CX k f fd ps (spP K fun _ _ => False) :=
  ⟨fun vs H Q E h => by obtain ⟨_, _, _, _, _, h, _⟩ := h; exact h.elim, fun A outer s H args us vs Q E _ _ _ _ h => by obtain ⟨_, _, _, _, _, h, _⟩ := h; exact h.elim⟩
/-! _law_bag -/
noncomputable def t__law_bag (K : Fg) : TS := (tRet (tLst (tCons (tCB (rListQ K) (tCons (tSl (rSlL K) (tVar 0) tNoPart (tPart (tC (V.int 63)))) tNil)) (tCons (tC (V.int 0)) (tCons (tC (V.int 20011)) tNil)))))
-- slots of _law_bag: 0 _law_script
theorem cut63 {xs : List V} (h : xs.length ≤ 63) : cutV xs none (some 63) = xs := qt_of (by simp (disch := with_unfolding_all
  unfold cutV
  rw [HT.sIx_none, show HT.sIx xs.length xs.length (some 63) = min 63 xs.length from HT.sIx_nat xs.length xs.length 63, Nat.min_eq_right h, List.drop_zero, Nat.sub_zero, List.take_length]
  ) only [↓qt_eq])
theorem rd__law_bag {D : Ends} {W : Addr → Prop} {H : Hp} {v : V} {ns : List Int} (hd : Dp K (less H W) v (.list (ns.map PyData.int))) (hl : ns.length ≤ 63)
    (q : ∀ b c H', Ex H H' → H b = none → H c = none → BagAt H' (some (b, c)) (bag0 ns) → D.rt (.ref b) H') : t__law_bag K D [some v] H := qt_of (by simp (disch := with_unfolding_all
  cases hd with
  | @lst a vs _ g t =>
    have e := dpa_ints t
    subst e
    have g' : SqL K H a (ns.map V.int) := ex_l less_ex g
    have ll : (ns.map V.int).length ≤ 63 := by rw [List.length_map]; exact hl
    unfold t__law_bag
    refine ⟨.ref a, rfl, 63, rfl, a, _, rfl, g', fun p hp => ?_⟩
    rw [cut63 ll]
    refine ⟨p, _, rfl, .inl (sq_of upd_same), fun c hc => ?_⟩
    refine ⟨by show 3 ≤ sizeLine; decide, fun b hb => ?_⟩
    have e1 : Ex H (upd H p (.lst (ns.map V.int))) := Ex.new hp
    have e2 := e1.trans (Ex.new (o := .lst (ns.map V.int)) hc)
    have nbc : c ≠ b := fun z => by
      rw [← z, upd_same] at hb; cases hb
    refine q b c _ (e2.trans (Ex.new hb)) (fresh_back e2 hb) (fresh_back e1 hc) ⟨upd_same, ?_, hl, by show (0 : Int) ≤ 20011; decide, by show (20011 : Int) < 2147483647; decide⟩
    rw [upd_ne nbc, upd_same]
    rfl
  ) only [↓qt_eq])
/-! _law_like -/
noncomputable def t__law_like (K : Fg) (n : Nat) : TS := (tSeq (tIfS (tB (tCB (rIsiT K) (tCons (tVar 1) (tCons (tTup (tCons (tC (V.ty "tuple")) (tCons (tC (V.ty "list")) tNil))) tNil)))) (tSeq (tIfS (tTest (tOp rNe (tCB (rIsi K) (tCons (tVar 0) (tCons (tC (V.ty "tuple")) tNil))) (tCB (rIsi K) (tCons (tVar 1) (tCons (tC (V.ty "tuple")) tNil))))) (tRet (tC (V.bl false))) tNext)
  (tSeq (tIfS (tOr (tNot (tB (tCB (rIsiT K) (tCons (tVar 0) (tCons (tTup (tCons (tC (V.ty "tuple")) (tCons (tC (V.ty "list")) tNil))) tNil))))) (tTest (tOp rNe (tCB (rLenQ K) (tCons (tVar 0) tNil)) (tCB (rLenQ K) (tCons (tVar 1) tNil))))) (tRet (tC (V.bl false))) tNext)
  (tRet (tCB (rAll K) (tCons (tLc (iRng1 (tCons (tCB (rLenQ K) (tCons (tVar 1) tNil)) tNil)) (gName 2) tYes (tCall (spP K (P_like n)) [] E0 (tCons (tOp (rIx K) (tVar 0) (tVar 2)) (tCons (tOp (rIx K) (tVar 1) (tVar 2)) tNil))) [2]) tNil))))) tNext)
  (tSeq (tIfS (tB (tCB (rIsi K) (tCons (tVar 1) (tCons (tC (V.ty "bool")) tNil)))) (tRet (tAndV (tCB (rIsi K) (tCons (tVar 0) (tCons (tC (V.ty "bool")) tNil))) (tOp rEq (tVar 0) (tVar 1)))) tNext)
  (tSeq (tIfS (tB (tCB (rIsi K) (tCons (tVar 1) (tCons (tC (V.ty "int")) tNil)))) (tRet (tAndV (tCB (rIsi K) (tCons (tVar 0) (tCons (tC (V.ty "int")) tNil))) (tAndV (tNotV (tCB (rIsi K) (tCons (tVar 0) (tCons (tC (V.ty "bool")) tNil)))) (tOp rEq (tVar 0) (tVar 1))))) tNext)
  (tSeq (tIfS (tB (tCB (rIsi K) (tCons (tVar 1) (tCons (tC (V.ty "str")) tNil)))) (tRet (tAndV (tCB (rIsi K) (tCons (tVar 0) (tCons (tC (V.ty "str")) tNil))) (tOp rEq (tVar 0) (tVar 1)))) tNext)
  (tRet (tAndV (tOp rIsNo (tVar 1) (tC V.non)) (tOp rIsNo (tVar 0) (tC V.non))))))))
-- slots of _law_like: 0 _law_found, 1 _law_due, 2 _law_at
theorem ln__law_like {n : Nat} : ∀ ds r, P_like (n + 1) ds r → ds.length = 2 := fun ds r h => by obtain ⟨p, rfl, _⟩ := h; rfl
theorem atI_rng {xs : List PyData} {i : Nat} (h : i < xs.length) : ∃ x, xs[i]? = some x ∧ atI xs ((0 : Int) + (i : Int)) = some x := by
  refine ⟨xs[i], List.getElem?_eq_getElem h, ?_⟩
  rw [Int.zero_add]
  exact atI_nat (List.getElem?_eq_getElem h)
theorem mem_rng {lo : Int} {n : Nat} {x : PyData} (h : x ∈ rngD lo n) : ∃ i, i < n ∧ x = .int (lo + (i : Int)) := by
  unfold rngD at h
  obtain ⟨i, hi, rfl⟩ := List.mem_map.mp h
  exact ⟨i, List.mem_range.mp hi, rfl⟩
theorem un_at {G : Gam} {j : Nat} (h : G[j]? = some .un) : ∀ i e, i ∈ [j] → G[i]? = some e → e = .un := fun i e hi g => by
  rw [List.mem_singleton.mp hi, h] at g
  exact (Option.some.inj g).symm
theorem all_true (n : Nat) (l : List PyData) : l.map (fun _ => PyData.bool true) = (l.map fun _ => true).map PyData.bool := by
  rw [List.map_map]; rfl
theorem all_true2 (l : List PyData) : (l.map fun _ => true).all id = true := by
  rw [List.all_map]; simp
theorem rd__law_like {n : Nat} {ds r} (h : P_like (n + 1) ds r) (b : Bag) : SG K (t__law_like K n) (frame 3 ds) b (.rt r b) := qt_of (by simp (disch := with_unfolding_all
  obtain ⟨x, rfl, hx, rfl⟩ := h
  unfold t__law_like
  have v0 : EvG K (tVar 0) (frame 3 [x, x]) b x b := ev_var rfl
  have v1 : EvG K (tVar 1) (frame 3 [x, x]) b x b := ev_var rfl
  cases x with
  | none =>
    refine sg_when (et_B (ev_isi2 v1 kit_NoneType_tuple kit_NoneType_list)) (fun h => by cases h) fun _ => ?_
    refine sg_when (et_B (ev_isi v1 kit_NoneType_bool)) (fun h => by cases h) fun _ => ?_
    refine sg_when (et_B (ev_isi v1 kit_NoneType_int)) (fun h => by cases h) fun _ => ?_
    refine sg_when (et_B (ev_isi v1 kit_NoneType_str)) (fun h => by cases h) fun _ => ?_
    exact sg_ret (ev_andT (ev_isNo v1) (ev_isNo v0))
  | bool i =>
    refine sg_when (et_B (ev_isi2 v1 kit_bool_tuple kit_bool_list)) (fun h => by cases h) fun _ => ?_
    refine sg_when (et_B (ev_isi v1 kit_bool_bool)) (fun _ => ?_) (fun h => by cases h)
    refine sg_seqR (sg_ret (ev_andT (ev_isi v0 kit_bool_bool) (ev_is (ev_eqB v0 v1) ?_)))
    simp
  | int i =>
    refine sg_when (et_B (ev_isi2 v1 kit_int_tuple kit_int_list)) (fun h => by cases h) fun _ => ?_
    refine sg_when (et_B (ev_isi v1 kit_int_bool)) (fun h => by cases h) fun _ => ?_
    refine sg_when (et_B (ev_isi v1 kit_int_int)) (fun _ => ?_) (fun h => by cases h)
    refine sg_seqR (sg_ret (ev_andT (ev_isi v0 kit_int_int) (ev_andT (ev_not (ev_isi v0 kit_int_bool)) (ev_is (ev_eqI v0 v1) ?_))))
    simp
  | str i =>
    refine sg_when (et_B (ev_isi2 v1 kit_str_tuple kit_str_list)) (fun h => by cases h) fun _ => ?_
    refine sg_when (et_B (ev_isi v1 kit_str_bool)) (fun h => by cases h) fun _ => ?_
    refine sg_when (et_B (ev_isi v1 kit_str_int)) (fun h => by cases h) fun _ => ?_
    refine sg_when (et_B (ev_isi v1 kit_str_str)) (fun _ => ?_) (fun h => by cases h)
    refine sg_seqR (sg_ret (ev_andT (ev_isi v0 kit_str_str) (ev_is (ev_eqS v0 v1) ?_)))
    simp
  | dict i => cases n <;> cases hx
  | tuple xs =>
    cases n with
    | zero => cases hx
    | succ n =>
      unfold okD at hx
      obtain ⟨hl, ha⟩ := Bool.and_eq_true_iff.mp hx
      have hl := of_decide_eq_true hl
      refine sg_when (et_B (ev_isi2 v1 kit_tuple_tuple kit_tuple_list)) (fun _ => ?_) (fun h => by cases h)
      refine sg_seqR ?_
      refine sg_when (et_test (ev_neB (ev_isi v0 kit_tuple_tuple) (ev_isi v1 kit_tuple_tuple))) (fun h => by cases h) fun _ => ?_
      refine sg_when (et_orF (et_not (et_B (ev_isi2 v0 kit_tuple_tuple kit_tuple_list))) (et_is (et_test (ev_neI (ev_lenT v0) (ev_lenT v1))) (b' := false) (by simp))) (fun h => by cases h) fun _ => ?_
      refine sg_ret (ev_is (ev_all (bs := (rngD 0 ((xs.length : Int).toNat)).map fun _ => true) (ev_is (ev_lcM (src_rng1 (ea_cons (ev_lenT v1) ea_nil) ⟨by omega, by omega⟩) (fun _ => .bool true) (un_at rfl) (by rw [rngD_len]; omega) fun y hy => ?_) (congrArg PyData.list (all_true 0 _)))) (by rw [all_true2]))
      obtain ⟨i, hi, rfl⟩ := mem_rng hy
      rw [Int.toNat_natCast] at hi
      obtain ⟨z, hz, hz2⟩ := atI_rng hi
      refine ⟨_, tgt_name, ev_like (ev_ixT (ev_var rfl) (ev_var rfl) hz2) (ev_ixT (ev_var rfl) (ev_var rfl) hz2) rfl (okAll_get ha hz)⟩
  | list xs =>
    cases n with
    | zero => cases hx
    | succ n =>
      unfold okD at hx
      obtain ⟨hl, ha⟩ := Bool.and_eq_true_iff.mp hx
      have hl := of_decide_eq_true hl
      refine sg_when (et_B (ev_isi2 v1 kit_list_tuple kit_list_list)) (fun _ => ?_) (fun h => by cases h)
      refine sg_seqR ?_
      refine sg_when (et_test (ev_neB (ev_isi v0 kit_list_tuple) (ev_isi v1 kit_list_tuple))) (fun h => by cases h) fun _ => ?_
      refine sg_when (et_orF (et_not (et_B (ev_isi2 v0 kit_list_tuple kit_list_list))) (et_is (et_test (ev_neI (ev_lenL v0) (ev_lenL v1))) (b' := false) (by simp))) (fun h => by cases h) fun _ => ?_
      refine sg_ret (ev_is (ev_all (bs := (rngD 0 ((xs.length : Int).toNat)).map fun _ => true) (ev_is (ev_lcM (src_rng1 (ea_cons (ev_lenL v1) ea_nil) ⟨by omega, by omega⟩) (fun _ => .bool true) (un_at rfl) (by rw [rngD_len]; omega) fun y hy => ?_) (congrArg PyData.list (all_true 0 _)))) (by rw [all_true2]))
      obtain ⟨i, hi, rfl⟩ := mem_rng hy
      rw [Int.toNat_natCast] at hi
      obtain ⟨z, hz, hz2⟩ := atI_rng hi
      refine ⟨_, tgt_name, ev_like (ev_ixL (ev_var rfl) (ev_var rfl) hz2) (ev_ixL (ev_var rfl) (ev_var rfl) hz2) rfl (okAll_get ha hz)⟩
  ) only [↓qt_eq])
/-! ### a law's loop -/
end
end U


end
section
namespace U
open PySem PyProof.Rows L2 Evl
local macro_rules | `(tactic| walk_at "ev1a") => do
  let a ← ("ev_ixDisp ev_fst ev_snd ev_add ev_sub ev_mul ev_fdiv ev_mod ev_pow ev_lt ev_le ev_gt ev_ge ev_eqI ev_neI ev_neg ev_subB ev_isNo ev_noNo ev_not et_test et_B et_not ev_abs ev_max ev_min ev_intB ev_gcd ev_frac ev_fadd ev_sign ev_cmpF".splitOn " ").mapM fun (n : String) => `(tacticSeq| with_reducible apply $(Lean.mkIdent n.toName):ident)
  let b := a.toArray
  `(tactic| first $[| $b:tacticSeq]*)
local macro_rules | `(tactic| walk_at "ev1b") => do
  let a ← ("ev_like ev_tup ev_lst ea_cons eo_some ev_order".splitOn " ").mapM fun (n : String) => `(tacticSeq| with_reducible apply $(Lean.mkIdent n.toName):ident)
  let b := a.toArray
  `(tactic| first $[| $b:tacticSeq]*)
local macro_rules | `(tactic| walk_at "ev1") => `(tactic| first
  | exact ev_int | exact ev_bl | exact ev_str | exact ev_non | exact ev_var rfl | exact ea_nil | exact eo_none
  | walk_at "ev1a"
  | with_reducible apply ev_pull rfl
  | walk_at "ev1b"
  | exact ev_part rfl | exact ev_far rfl | exact ev_farPart rfl
  | (with_reducible show List.length _ ≤ 16000000; (simp; done)) | (with_reducible show (0 : Int) < _; decide) | (with_reducible show (_ : Int) < 1000000000000; decide) | (with_reducible show CPow _ _; (unfold CPow; decide)) | (with_reducible show CNz _ _; (unfold CNz; decide))
  | with_reducible apply sg_ret | with_reducible apply sg_asg | with_reducible apply sg_next)
local macro_rules | `(tactic| walk_at "ln") => `(tactic| first | walk_at "ev1" | with_reducible apply sg_seq)
section

noncomputable def isPart2 : PyData → PyData → Bool
  | .int a, .int b => decide (0 < b) && decide (gI a b = 1)
  | _, _ => false
noncomputable def isPart : PyData → Bool
  | .tuple [p, q] => isPart2 p q
  | _ => false
section
variable {K : Fg} {G : Gam} {s s1 s2 s' : Bag} {ta tb te : TE} {x y : PyData} {E : XK}
end
section
variable {K : Fg}
-- slots of is_whole: 0 thing
noncomputable def t_shared (K : Fg) : TS := (tSeq (tPar 0 1 (tCons (tCB rAbs (tCons (tVar 0) tNil)) (tCons (tCB rAbs (tCons (tVar 1) tNil)) tNil)))
  (tSeq (tWhile (tTest (tOp (rI0 fun i j => V.bl (decide (j < i))) (tVar 1) (tC (V.int 0)))) (tPar 0 1 (tCons (tVar 1) (tCons (tOp (rI CNz fun i j => V.int (i.fmod j)) (tVar 0) (tVar 1)) tNil))))
  (tRet (tCB rMx (tCons (tVar 0) (tCons (tC (V.int 1)) tNil))))))
-- slots of shared: 0 one, 1 other
theorem ln_shared : ∀ ds r, P_gcd ds r → ds.length = 2 := fun ds r h => by obtain ⟨p, q, rfl, _⟩ := h; rfl
theorem rd_shared {ds r} (h : P_gcd ds r) (b : Bag) : SG K (t_shared K) (frame 2 ds) b (.rt r b) := qt_of (by simp (disch := with_unfolding_all
  obtain ⟨x, y, rfl, rfl⟩ := h
  unfold t_shared
  obtain ⟨n, h1, h2⟩ := eu_end y.natAbs x.natAbs
  apply sg_is
  apply sg_seq
  · apply sg_par
    (repeat' walk_at "ev1")
  apply sg_seq
  · refine sg_while (s' := b) (fun i => [.d (.int (eu x.natAbs y.natAbs i).1), .d (.int (eu x.natAbs y.natAbs i).2)]) (fun _ => b) (fun _ => b) n ?_ rfl (fun i hi => ?_) (fun i hi => .inl ?_) ?_
    · show Wk [.d (.int (absI x)), .d (.int (absI y))] _
      rw [absI_nat, absI_nat]
      exact .refl _
    · refine et_is (by (repeat' walk_at "ev1")) ?_
      have := h2 i hi
      simp; omega
    · have hy := h2 i hi
      refine sg_is (sg_par (ea_cons (ev_var rfl) (ea_cons (ev_mod (ev_var rfl) (ev_var rfl) ?_) ea_nil))) ?_
      · show ((eu x.natAbs y.natAbs i).2 : Int) ≠ 0
        omega
      · rw [fmod_nat]
        rfl
    · refine et_is (by (repeat' walk_at "ev1")) ?_
      rw [h1]
      rfl
  · rw [h1]
    (repeat' walk_at "ev1")
  · show Out.rt (.int (maxI _ 1)) b = _
    rw [gN_max]
  ) only [↓qt_eq])
-- slots of is_part: 0 thing
-- slots of _law_wild: 0 _law_bag_here, 1 _law_things
end

end
end U
end
section
/-! Own exception classes over any of four built-in bases, their __init__ walked as a def. -/
namespace U
open PySem PySem.W PyProof.Rows L2 Evl
section
open Builtin Builtin.ObjectAttr
variable {prog : Program} {w : World} {A : Around} {R : Result → Shared → Prop} {hp : Heap} {g : Array GenState} {d : Drawn} {t : Nat} {os : OsState} {K : Fg} {C x : Addr} {B newId initId : String} {bmB : List Value} {name : Str} {tk : Tok} {v : Value} {fv : Array Value}
end
section
variable {X : Cx} {pins : List (Addr × Obj)} {σ : St} {H : Hp} {s : Shared} {a C dx : Addr} {f : Str} {y : V} {u : Value} {fs : List (Str × V)} {Q : Unit → Shared → Prop} {E : Value → Shared → Prop} {A : Around} {B newId initId : String} {bmB : List Value}
end
section
variable {X : Cx} {o e : Expr} {es : List Expr} {to te : TE} {ta : TA} {f : Str} {p p' p1 p2 pos : Pos}
end
end U

end
section
/-! Raising, over data: promises of defs that may raise, judgements of what raises, try .. except .. as. -/
namespace U
open PySem PyProof.Rows L2 Evl
/-- an exception: its class's name, its fields -/
structure Xw where
  cls : Str
  fs : List (Str × V)
noncomputable abbrev Cs := Str → Addr
section
variable {K : Fg} {cs : Cs} {W : WX} {G G' G1 G2 : Gam} {s s1 s2 s3 s' : Bag} {ta tb tc te : TE} {t u : TT} {x y z : PyData} {tu tw tz : TS} {o : Out} {e : Xw}
/-! ### raise C(..) -/
end
section
variable {Pg : Program} {w : World} {K : Fg} {mg : Str → Option Value} {base : Heap} {cs : Cs}
end
/-! ### try .. except C as why -/
section
variable {K : Fg} {cs : Cs} {G G' G1 : Gam} {s s1 s' : Bag} {x : PyData} {e : Xw}
end
end U

end
section
/-! Defs with defaults and keyword-only parameters; the refusals' own __init__. -/
namespace U
open PySem PyProof.Rows L2 Evl
section
variable {Pg : Program} {w : World} {K : Fg} {mg : Str → Option Value} {base : Heap} {cs : Cs}
end
section
variable {K : Fg} {cs : Cs} {W : WX} {G G' G1 G2 : Gam} {s s1 s2 s3 s' : Bag} {ta tb tc te : TE} {t u : TT} {x y z : PyData}
end
/-! ### Flat -/
noncomputable abbrev W0 : WX := fun _ _ _ _ => False
end U

end
section
namespace U
open PySem PyProof.Rows L2 Evl
section
variable {K : Fg}
end
end U

end
section
/-! Own exceptions whose __init__ calls the base class's own. -/
namespace U
open PySem PySem.W PyProof.Rows L2 Evl
section
variable {Pg : Program} {w : World} {K : Fg} {mg : Str → Option Value} {base : Heap} {cs : Cs}
end
end U

end
section
namespace U
open PySem PyProof.Rows L2 Evl
/-- the values of a module's constants -/
noncomputable abbrev Gs := Str → V
/-- for .. in a list or a tuple -/
noncomputable def iSeq (K : Fg) (tl : TE) : TI := fun σ H R => tl σ H fun x H1 => ∃ a, x = .ref a ∧ (((∃ xs, SqL K H1 a xs) ∧ R (Itl K a) H1) ∨ ((∃ xs, SqT K H1 a xs) ∧ R (Itt K a) H1))
theorem pi_seq {X : Cx} {tg l : Expr} {tl : TE} (hl : PE X l tl) : PI X tg l (iSeq X.K tl) := qt_of (by simp (disch := with_unfolding_all
  refine ⟨fun pins s σ H R I h => ?_⟩
  refine thn (hl.run pins s σ H _ I h) fun v s1 hh => ?_
  obtain ⟨x, H1, I1, r1, a, e, q1⟩ := hh
  subst e
  cases r1
  have fp : ∀ b, b ∈ [s1.heap.objs.size] → FpOk X pins H1 b := fun b hb => by
    have e : b = s1.heap.objs.size := by simpa using hb
    subst e
    exact I1.fpOk (Nat.le_refl _) (I1.hok.fresh (Nat.le_refl _))
  rcases q1 with ⟨⟨xs, hq⟩, q⟩ | ⟨⟨xs, hq⟩, q⟩
  · obtain ⟨its, rv, p, hz⟩ := I1.list hq
    refine wpAny_pyIter_list p.isList ?_
    exact ⟨s1.heap.objs.size, [s1.heap.objs.size], _, _, H1, rfl, I1.kept (t' := s1.toks) fun b o e => Heap.get?_push_of_some _ e, turn_list a _, ⟨_, Heap.get?_push_size _ rfl, rfl, rfl⟩, fp, q⟩
  · obtain ⟨its, rv, p, hz⟩ := I1.tuple hq
    refine wpAny_pyIter_tuple (show s1.heap.IsTuple a its.toArray from p) ?_
    exact ⟨s1.heap.objs.size, [s1.heap.objs.size], _, _, H1, rfl, I1.kept (t' := s1.toks) fun b o e => Heap.get?_push_of_some _ e, turn_tuple a _, ⟨_, Heap.get?_push_size _ rfl, rfl, rfl⟩, fp, q⟩
  ) only [↓qt_eq])
section
variable {K : Fg} {cs : Cs} {W : WX} {G G' G1 : Gam} {s s1 s2 s' : Bag} {ta tb te : TE} {x y : PyData} {e : Xw}
end
end U

end
section
namespace U
open PySem PySem.W PyProof.Rows L2 Evl
section
variable {prog : Program} {w : World} {A : Around} {E : Value → Shared → Prop} {s : Shared}
end
end U

end
section
/-! zip of two things, each a list or a tuple, strict or not. -/
namespace U
open PySem PySem.W PyProof.Rows L2 Evl
section
variable {prog : Program} {w : World} {A : Around} {E : Value → Shared → Prop} {s : Shared}
end
end U

end
section
/-! zip(a, b, strict=True) and zip(a, b): the end, the making. -/
namespace U
open PySem PySem.W PyProof.Rows L2 Evl
section
variable {prog : Program} {w : World} {A : Around} {E : Value → Shared → Prop} {s : Shared}
/-! ### the making -/
end
section
variable {prog : Program} {w : World} {A : Around} {E : Value → Shared → Prop} {s : Shared}
end
end U

end
section
namespace U
open PySem PySem.W PyProof.Rows L2 Evl
section
variable {prog : Program} {w : World} {A : Around} {E : Value → Shared → Prop} {s : Shared}
end
end U

end
section
namespace U
open PySem PySem.W PyProof.Rows L2 Evl
section
variable {prog : Program} {w : World} {A : Around} {E : Value → Shared → Prop} {s : Shared}
end
section
variable {M : Model} {A : Around} {E : Value → Shared → Prop} {s : Shared}
end
section
variable {X : Cx} {e e2 : Expr} {ta : TA} {p pos tpos kpos cpos : Pos} {elts : List Expr} {kk cn : Nat}
end
end U

end
section
/-! try with several clauses, each with a name -/
namespace U
open PySem PySem.Spec PyProof.Rows L2
noncomputable abbrev Hd := Value × Nat × (Addr → Value → Option Addr → TS)
section
variable {X : Cx} {body : List Stmt} {h₀ : ExceptHandler} {hds : List ExceptHandler} {l : List Hd} {pos : Pos} {tb : WX → TS} {Wout : WX}
end
end U

end
section
/-! enumerate of a list or a tuple. -/
namespace U
open PySem PySem.W PyProof.Rows L2 Evl
section
variable {prog : Program} {w : World} {A : Around} {E : Value → Shared → Prop} {s : Shared}
end
end U

end
section
/-! list comprehensions of two and three clauses. -/
namespace U
open PySem PySem.Spec PyProof.Rows L2
/-- what a clause's rest does to the list at D -/
noncomputable abbrev TCl := Addr → St → Hp → (Hp → Prop) → Prop
section
variable {X : Cx} {own : List Nat} {D : Addr}
end
section
variable {X : Cx}
end
/-! ### the clauses' own loops -/
section
variable {prog : Program} {w : World} {A : Around} {env : Env} {D : Addr} {c elt t0 i0 i1 : Expr} {i : Nat} {ifs0 : List Expr}
end
section
variable {elt t0 i0 t1 i1 t2 i2 : Expr} {ifs0 ifs1 ifs2 : List Expr} {scope : Scope} {pos : Pos}
variable {prog : Program} {w : World} {A : Around} {env : Env} {D : Addr}
end
/-! ### the rules for use -/
section
variable {X : Cx} {elt tg iter tg1 iter1 tg2 iter2 : Expr} {ifs ifs1 ifs2 : List Expr} {scope : Scope} {own : List (Str × Nat)} {pos : Pos} {wi wi1 wi2 : TI} {g g1 g2 : TG} {tt tt1 tt2 : TT} {te : TE} {vs1 vs2 : List Nat}
end
end U

end
section
/-! first, *rest = a list or a tuple. -/
namespace U
open PySem PySem.W PyProof.Rows L2 Evl
section
variable {prog : Program} {w : World} {A : Around} {E : Value → Shared → Prop} {s : Shared}
end
/-! ### a call with keywords that may raise -/
section
variable {X : Cx} {CX : CXT} {k n : Nat} {f : Addr} {fd : FuncData} {ps ks : List Str} {sp : Sp} {E : St → XK} {x : Str} {p pos : Pos} {e : Expr} {es : List Expr} {kws : List Keyword} {t tk : TA} {g : List Value → List Value → List Value} {gV : List V → List V → List V}
end
end U

end
section
namespace U
open PySem PyProof.Rows L2 Evl
section
variable {X : Cx}
end
end U

end
section
namespace U
open PySem PyProof.Rows L2 Evl
section
variable {X : Cx}
end
end U

end
section
namespace U
open PySem PyProof.Rows L2 Evl
section
variable {X : Cx} {pos : Pos}
end
end U

end
section
/-! A lambda with parameters, handed to a def as its last argument: g(e, lambda y: body), what it captures stays while g runs. -/
namespace U
open PySem PySem.Spec PyProof.Rows L2 Evl LamX
section
variable {X : Cx} {pins : List (Addr × Obj)} {σ : L2.St} {H : Hp} {s : Shared}
end
/-! ### the body's names -/
section
variable {X : Cx} {pins : List (Addr × Obj)} {σ : L2.St} {H HZ : Hp} {s s1 : Shared} {ps : List Str} {sc : Scope}
end
section
variable {X : Cx} {pins : List (Addr × Obj)} {σ : L2.St} {H : Hp} {s : Shared} {ps : List Str} {sc : Scope}
end
section
variable {X : Cx}
end
end U

end
section
/-! The second data layer: what is wanted of a reading, and what suffices for it. Slots hold data, things of one's own, or the bag. -/
namespace U.N
open PySem L2 Evl
/-- what a frame may change beside its own: the bag, and tables of code objects (each with the name that these bear) -/
structure Bt where
  bag : Option (Addr × Addr)
  T : List (Addr × Str)
noncomputable abbrev noB : Bt := ⟨none, []⟩
noncomputable abbrev bgB (b c : Addr) : Bt := ⟨some (b, c), []⟩
noncomputable def InB (B : Bt) (a : Addr) : Prop := U.InB B.bag a ∨ ∃ p ∈ B.T, a = p.1
/-- all but that stays -/
noncomputable def Xb (B : Bt) (H H2 : Hp) : Prop := ∀ a o, H a = some o → ¬ InB B a → H2 a = some o
theorem Xb.refl {B : Bt} {H : Hp} : Xb B H H := fun _ _ h _ => h
theorem Xb.trans {B : Bt} {H H1 H2 : Hp} (a : Xb B H H1) (b : Xb B H1 H2) : Xb B H H2 := fun p o h n => b p o (a p o h n) n
theorem Xb.of {B : Bt} {H H2 : Hp} (e : Ex H H2) : Xb B H H2 := fun p o h _ => e p o h
/-- a thing of one's own: what it holds, and how it stands in the heap -/
structure Own where
  flat : List PyData
  obj : Addr → List V → HO
/-- a list of one's own -/
noncomputable def ol (xs : List PyData) : Own := ⟨xs, fun _ vs => .lst vs⟩
inductive En where
  | un
  | d (x : PyData)
  | ow (c : Own)
  | bag
  /-- a caught exception: itself, its dict, its fields -/
  | xc (a d : Addr) (fs : List (Str × V))
  /-- a thing that stays as it is -/
  | fz (c : Own)
  /-- any value, known as it is -/
  | vl (v : V)
  /-- a lambda, its code object and that one's name; what it captured -/
  | fn (f d : Addr) (q : Str) (us : List V) (ds : List PyData)
  /-- a mark: these tables may grow -/
  | tb (T : List (Addr × Str))
  /-- a value of which something is known, and stays so -/
  | rv (ρ : V → Hp → Prop)
noncomputable abbrev Gam := List En
noncomputable def Zs (W : Addr → Prop) (B : Bt) (ad : Nat → Addr) (G : Gam) : Addr → Prop := fun a => W a ∨ (∃ i c, G[i]? = some (.ow c) ∧ a = ad i) ∨ InB B a
noncomputable def Slot (K : Fg) (B : Bt) (ad : Nat → Addr) (H : Hp) (Z : Addr → Prop) (i : Nat) (o : Option V) : En → Prop
  | .un => True
  | .d x => ∃ v, o = some v ∧ Dp K (less H Z) v x
  | .ow c => o = some (.ref (ad i)) ∧ ∃ vs, H (ad i) = some (c.obj (ad i) vs) ∧ DpAll K (less H Z) vs c.flat
  | .bag => ∃ b c, B.bag = some (b, c) ∧ o = some (.ref b)
  | .xc a d fs => o = some (.ref a) ∧ less H Z d = some (.xd fs)
  | .fz c => ∃ a vs, o = some (.ref a) ∧ less H Z a = some (c.obj a vs) ∧ DpAll K (less H Z) vs c.flat
  | .vl v => o = some v
  | .fn f d q us ds => o = some (.ref f) ∧ less H Z d = some (LamX.CodeO d q) ∧ DpAll K (less H Z) us ds
  | .tb T => B.T = T
  | .rv ρ => ∃ v, o = some v ∧ ∀ M, Ex (less H Z) M → ρ v M
noncomputable def BagOk (H : Hp) (B : Bt) : Prop := (∃ s : Bag, s.ok ∧ BagAt H B.bag s) ∧ ∀ p ∈ B.T, ∃ o, H p.1 = some o
theorem BagOk.xb {H H2 : Hp} {B : Bt} (h : BagOk H B) (e : ∀ a, InB B a → H2 a = H a) : BagOk H2 B := qt_of (by simp (disch := with_unfolding_all
  obtain ⟨⟨s, ok, h⟩, t⟩ := h
  refine ⟨⟨s, ok, ?_⟩, fun p hp => by rw [e _ (.inr ⟨p, hp, rfl⟩)]; exact t p hp⟩
  obtain ⟨bg, T⟩ := B
  rcases bg with _ | ⟨b, c⟩
  · trivial
  · have h : H b = _ ∧ _ := h
    exact ⟨(e b (.inl ⟨b, c, rfl, .inl rfl⟩)).trans h.1, (e c (.inl ⟨b, c, rfl, .inr rfl⟩)).trans h.2.1, h.2.2⟩
  ) only [↓qt_eq])
theorem BagOk.there {H : Hp} {B : Bt} (h : BagOk H B) {a : Addr} (z : InB B a) : ∃ o, H a = some o := by
  obtain ⟨⟨s, ok, h⟩, t⟩ := h
  rcases z with z | ⟨p, hp, rfl⟩
  · exact bag_there h z
  · exact t p hp
theorem BagOk.ext {H H2 : Hp} {B : Bt} (h : BagOk H B) (e : Ex H H2) : BagOk H2 B := h.xb fun a z => by
  obtain ⟨o, q⟩ := h.there z
  rw [q, e _ _ q]
theorem BagOk.upd {H : Hp} {B : Bt} (h : BagOk H B) {p : Addr} {o : HO} (n : ¬ InB B p) : BagOk (upd H p o) B := h.xb fun a z => upd_ne fun e => n (e ▸ z)
/-- a table of code objects: those that it tells bear the name -/
noncomputable def TabZ (H : Hp) (Z : Addr → Prop) (p : Addr × Str) : Prop := ∃ ps : Array Value, H p.1 = some (.tbl ps) ∧ TriplesOk ps.toList ∧ ∀ (l : Pos) (cv : Value), codeAmong l ps.toList = some cv → ∃ c, cv = .ref c ∧ less H Z c = some (LamX.CodeO c p.2)
theorem TabZ.mono {H H2 : Hp} {Z Z' : Addr → Prop} {p : Addr × Str} (h : TabZ H Z p) (x : Ex (less H Z) (less H2 Z')) (y : H2 p.1 = H p.1) : TabZ H2 Z' p := by
  obtain ⟨ps, h1, h2, h3⟩ := h
  exact ⟨ps, y.trans h1, h2, fun l cv hc => by
    obtain ⟨c, e, g⟩ := h3 l cv hc
    exact ⟨c, e, x _ _ g⟩⟩
theorem TabZ.there {H : Hp} {Z : Addr → Prop} {p : Addr × Str} (h : TabZ H Z p) : ∃ o, H p.1 = some o := let ⟨_, h1, _⟩ := h; ⟨_, h1⟩
/-- the state of a def's frame: slots, heap, bag, against the heap H0 at its entry -/
structure Sta (K : Fg) (W : Addr → Prop) (B : Bt) (ad : Nat → Addr) (H0 H : Hp) (σ : St) (G : Gam) : Prop where
  len : σ.length = G.length
  at_ : ∀ i e, G[i]? = some e → ∃ o, σ[i]? = some o ∧ Slot K B ad H (Zs W B ad G) i o e
  inj : ∀ i j c c', G[i]? = some (.ow c) → G[j]? = some (.ow c') → ad i = ad j → i = j
  sep : ∀ i c, G[i]? = some (.ow c) → H0 (ad i) = none ∧ ¬ InB B (ad i) ∧ ¬ W (ad i)
  base : ∀ a o, H0 a = some o → ¬ InB B a → H a = some o
  bag : BagOk H B
  wd : ∀ a, W a → ∃ o, H a = some o
  tab : ∀ p ∈ B.T, TabZ H (Zs W B ad G) p
section
variable {K : Fg} {W : Addr → Prop} {B : Bt} {ad : Nat → Addr} {H0 H H2 : Hp} {σ : St} {G G' : Gam}
theorem Slot.mono {Z Z' : Addr → Prop} {i : Nat} {o : Option V} {e : En} (h : Slot K B ad H Z i o e) (x : Ex (less H Z) (less H2 Z')) (y : ∀ c u, e = .ow c → H (ad i) = some u → H2 (ad i) = some u) : Slot K B ad H2 Z' i o e := qt_of (by simp (disch := with_unfolding_all
  cases e with
  | un => trivial
  | d d => obtain ⟨v, e, h⟩ := h; exact ⟨v, e, dp_mono x h⟩
  | ow c => obtain ⟨e, vs, h1, h2⟩ := h; exact ⟨e, vs, y c _ rfl h1, dpa_mono x h2⟩
  | bag => exact h
  | xc a d fs => exact ⟨h.1, x _ _ h.2⟩
  | fz c => obtain ⟨a, vs, e, h1, h2⟩ := h; exact ⟨a, vs, e, x _ _ h1, dpa_mono x h2⟩
  | vl v => exact h
  | fn f d q us ds => exact ⟨h.1, x _ _ h.2.1, dpa_mono x h.2.2⟩
  | tb T => exact h
  | rv ρ => obtain ⟨v, e, h⟩ := h; exact ⟨v, e, fun M m => h M fun a o q => m a o (x a o q)⟩
  ) only [↓qt_eq])
theorem InB.tab {p : Addr × Str} (hp : p ∈ B.T) : InB B p.1 := .inr ⟨p, hp, rfl⟩
theorem Sta.there (S : Sta K W B ad H0 H σ G) (a : Addr) (z : Zs W B ad G a) : ∃ o, H a = some o := by
  rcases z with z | ⟨i, c, g, rfl⟩ | z
  · exact S.wd _ z
  · obtain ⟨_, _, _, vs, h1, _⟩ := S.at_ i _ g
    exact ⟨_, h1⟩
  · exact S.bag.there z
/-- everything stays -/
theorem Sta.ext (S : Sta K W B ad H0 H σ G) (e : Ex H H2) : Sta K W B ad H0 H2 σ G where
  len := S.len
  at_ := fun i en h => by
    obtain ⟨o, h1, h2⟩ := S.at_ i en h
    exact ⟨o, h1, h2.mono (less_mono e) fun _ _ _ q => e _ _ q⟩
  inj := S.inj
  sep := S.sep
  base := fun a o h n => e _ _ (S.base a o h n)
  bag := S.bag.ext e
  wd := fun a z => by
    obtain ⟨o, h⟩ := S.wd a z
    exact ⟨o, e _ _ h⟩
  tab := fun p hp => (S.tab p hp).mono (less_mono e) (by
    obtain ⟨ps, h, _⟩ := S.tab p hp
    rw [h]; exact e _ _ h)
/-- all but the bag stays -/
theorem Sta.drawn (S : Sta K W B ad H0 H σ G) (e : Xb B H H2) (b : BagOk H2 B) (t : ∀ p ∈ B.T, TabZ H2 (Zs W B ad G) p) : Sta K W B ad H0 H2 σ G where
  len := S.len
  at_ := fun i en h => by
    obtain ⟨o, h1, h2⟩ := S.at_ i en h
    refine ⟨o, h1, h2.mono (less_but fun a o q z => e a o q fun y => z (.inr (.inr y))) fun c vs q q2 => ?_⟩
    subst q
    exact e _ _ q2 (S.sep i c h).2.1
  inj := S.inj
  sep := S.sep
  base := fun a o h n => e a o (S.base a o h n) n
  bag := b
  wd := fun a z => by
    by_cases hb : InB B a
    · exact b.there hb
    · obtain ⟨o, h⟩ := S.wd a z
      exact ⟨o, e _ _ h hb⟩
  tab := t
theorem Xb.lz {H H2 : Hp} (a : Xb B H H2) : Ex (less H (Zs W B ad G)) (less H2 (Zs W B ad G)) := less_but fun p o h n => a p o h fun z => n (.inr (.inr z))
/-- a bag's call leaves the tables -/
theorem Sta.tabB {b c : Addr} (S : Sta K W B ad H0 H σ G) (hb : B.bag = some (b, c)) (e : Xb (bgB b c) H H2) (k : BagOk H2 (bgB b c)) : Xb B H H2 ∧ BagOk H2 B ∧ ∀ p ∈ B.T, TabZ H2 (Zs W B ad G) p := qt_of (by simp (disch := with_unfolding_all
  have x : Xb B H H2 := fun a o h n => e a o h fun z => n (by
    rcases z with z | ⟨p, hp, _⟩
    · exact .inl (by rw [hb]; exact z)
    · cases hp)
  have st : ∀ p ∈ B.T, H2 p.1 = H p.1 := fun p hp => by
    obtain ⟨ps, h, _⟩ := S.tab p hp
    rw [h]
    refine e _ _ h fun z => ?_
    rcases z with ⟨b', c', z, y⟩ | ⟨p, hp, _⟩
    · cases z
      obtain ⟨⟨s, _, k⟩, _⟩ := S.bag
      rw [hb] at k
      rcases y with y | y
      · rw [y, k.1] at h; cases h
      · rw [y, k.2.1] at h; cases h
    · cases hp
  refine ⟨x, ⟨by rw [hb]; exact k.1, fun p hp => ?_⟩, fun p hp => (S.tab p hp).mono (less_but fun a o q z => x a o q fun y => z (.inr (.inr y))) (st p hp)⟩
  rw [st p hp]
  exact (S.tab p hp).there
  ) only [↓qt_eq])
/-- .. and so does a call that keeps all, its answer at a new place -/
theorem Sta.tabN {a : Addr} (S : Sta K W B ad H0 H σ G) (hn : H a = none) : ∀ p ∈ B.T, TabZ H (fun b => Zs W B ad G b ∨ b = a) p := fun p hp =>
  (S.tab p hp).mono (fun c o q => by
    obtain ⟨q1, q2⟩ := less_some q
    exact less_of (fun z => z.elim q1 fun z => by rw [z, hn] at q2; cases q2) q2) rfl
theorem TabZ.ex {H H2 : Hp} {Z : Addr → Prop} {p : Addr × Str} (h : TabZ H Z p) (e : Ex H H2) : TabZ H2 Z p := h.mono (less_mono e) (by
  obtain ⟨ps, h, _⟩ := h
  rw [h]; exact e _ _ h)
theorem Zs.set_of {i : Nat} {e : En} (he : ∀ c, e ≠ .ow c) {a : Addr} (h : Zs W B ad (G.set i e) a) : Zs W B ad G a := by
  rcases h with h | ⟨j, c, h, r⟩ | h
  · exact .inl h
  · rcases get_set h with ⟨rfl, _, e'⟩ | ⟨_, h⟩
    · exact absurd e' (he c)
    · exact .inr (.inl ⟨j, c, h, r⟩)
  · exact .inr (.inr h)
/-- a slot gets a thing that is not of one's own -/
theorem Sta.set (S : Sta K W B ad H0 H σ G) {i : Nat} {e : En} {o : Option V} (he : ∀ c, e ≠ .ow c) (h : Slot K B ad H (Zs W B ad G) i o e) : Sta K W B ad H0 H (σ.set i o) (G.set i e) where
  len := by rw [List.length_set, List.length_set]; exact S.len
  at_ := fun j en g => by
    rcases get_set g with ⟨rfl, l, rfl⟩ | ⟨z, g⟩
    · refine ⟨o, List.getElem?_set_self (by rw [S.len]; exact l), h.mono (less_sub fun a q => Zs.set_of he q) fun _ _ _ q => q⟩
    · obtain ⟨o', h1, h2⟩ := S.at_ j en g
      exact ⟨o', by rw [List.getElem?_set_ne z]; exact h1, h2.mono (less_sub fun a q => Zs.set_of he q) fun _ _ _ q => q⟩
  inj := fun j k c c' g g' q => by
    rcases get_set g with ⟨rfl, l, e⟩ | ⟨z, g⟩
    · exact absurd e (he c)
    · rcases get_set g' with ⟨rfl, l, e⟩ | ⟨z', g'⟩
      · exact absurd e (he c')
      · exact S.inj j k c c' g g' q
  sep := fun j c g => by
    rcases get_set g with ⟨rfl, l, e⟩ | ⟨z, g⟩
    · exact absurd e (he c)
    · exact S.sep j c g
  base := S.base
  bag := S.bag
  wd := S.wd
  tab := fun p hp => (S.tab p hp).mono (less_sub fun a q => Zs.set_of he q) rfl
theorem Sta.setD (S : Sta K W B ad H0 H σ G) {i : Nat} {v : V} {x : PyData} (h : Dp K (less H (Zs W B ad G)) v x) : Sta K W B ad H0 H (σ.set i (some v)) (G.set i (.d x)) :=
  S.set (fun _ z => by cases z) ⟨v, rfl, h⟩
theorem Sta.setU (S : Sta K W B ad H0 H σ G) {i : Nat} {o : Option V} : Sta K W B ad H0 H (σ.set i o) (G.set i .un) :=
  S.set (fun _ z => by cases z) trivial
theorem Sta.fresh (S : Sta K W B ad H0 H σ G) {p : Addr} (h : H p = none) : H0 p = none ∧ ¬ InB B p ∧ ¬ Zs W B ad G p := qt_of (by simp (disch := with_unfolding_all
  have hZ : ¬ Zs W B ad G p := fun z => by
    obtain ⟨o, q⟩ := S.there p z
    rw [h] at q; cases q
  have hB : ¬ InB B p := fun z => hZ (.inr (.inr z))
  refine ⟨?_, hB, hZ⟩
  cases e : H0 p with
  | none => rfl
  | some o => rw [S.base p o e hB] at h; cases h
  ) only [↓qt_eq])
theorem own_ex {i : Nat} {p : Addr} {u : HO} {c : Own} (hp : H p = none) : Ex (less H (Zs W B ad G)) (less (upd H p u) (Zs W B (swp ad i p) (G.set i (.ow c)))) := fun a o q => by
  obtain ⟨q1, q2⟩ := less_some q
  have na : a ≠ p := ne_of_none q2 hp
  refine less_of (fun z => ?_) (by rw [upd_ne na]; exact q2)
  rcases z with z | ⟨j, c, g, r⟩ | z
  · exact q1 (.inl z)
  · rcases get_set g with ⟨rfl, l, e⟩ | ⟨z, g⟩
    · rw [swp_same] at r; exact na r
    · rw [swp_ne z] at r
      exact q1 (.inr (.inl ⟨j, c, g, r⟩))
  · exact q1 (.inr (.inr z))
/-- a new thing of one's own -/
theorem Sta.setOwn (S : Sta K W B ad H0 H σ G) {i : Nat} {p : Addr} {vs : List V} {c : Own} (hp : H p = none) (h : DpAll K (less H (Zs W B ad G)) vs c.flat) :
    Sta K W B (swp ad i p) H0 (upd H p (c.obj p vs)) (σ.set i (some (.ref p))) (G.set i (.ow c)) := qt_of (by simp (disch := with_unfolding_all
  obtain ⟨h0, hB, hZ⟩ := S.fresh hp
  have ex : Ex (less H (Zs W B ad G)) (less (upd H p (c.obj p vs)) (Zs W B (swp ad i p) (G.set i (.ow c)))) := own_ex hp
  have hne : ∀ j c', G[j]? = some (.ow c') → ad j ≠ p := fun j c' g z => hZ (.inr (.inl ⟨j, c', g, z.symm⟩))
  refine ⟨by rw [List.length_set, List.length_set]; exact S.len, fun j en g => ?_, fun j k ys zs g g' q => ?_, fun j ys g => ?_, fun a o q n => ?_, S.bag.upd hB, fun a z => (S.wd a z).elim fun o q => upd_there q, fun p' hp' => (S.tab p' hp').mono ex (upd_ne fun z => hB (z ▸ InB.tab hp'))⟩
  · rcases get_set g with ⟨rfl, l, rfl⟩ | ⟨z, g⟩
    · exact ⟨_, List.getElem?_set_self (by rw [S.len]; exact l), by rw [swp_same], vs, by rw [swp_same]; exact upd_same, dpa_mono ex h⟩
    · obtain ⟨o', h1, h2⟩ := S.at_ j en g
      refine ⟨o', by rw [List.getElem?_set_ne z]; exact h1, ?_⟩
      cases en with
      | un => trivial
      | d d => obtain ⟨v, e, h⟩ := h2; exact ⟨v, e, dp_mono ex h⟩
      | ow ys =>
        obtain ⟨e, us, h3, h4⟩ := h2
        have hj : swp ad i p j = ad j := swp_ne z
        exact ⟨by rw [hj]; exact e, us, by rw [hj, upd_ne (hne j ys g)]; exact h3, dpa_mono ex h4⟩
      | bag => exact h2
      | xc a d fs => exact ⟨h2.1, ex _ _ h2.2⟩
      | fz c => obtain ⟨a, vs, e, h1, h2⟩ := h2; exact ⟨a, vs, e, ex _ _ h1, dpa_mono ex h2⟩
      | vl v => exact h2
      | fn f d q us ds => exact ⟨h2.1, ex _ _ h2.2.1, dpa_mono ex h2.2.2⟩
      | tb T => exact h2
      | rv ρ => obtain ⟨v, e, h⟩ := h2; exact ⟨v, e, fun M m => h M fun a o q => m a o (ex a o q)⟩
  · rcases get_set g with ⟨rfl, l, e⟩ | ⟨z, g⟩
    · rcases get_set g' with ⟨rfl, l', e'⟩ | ⟨z', g'⟩
      · rfl
      · rw [swp_same, swp_ne z'] at q
        exact absurd q.symm (hne k zs g')
    · rcases get_set g' with ⟨rfl, l', e'⟩ | ⟨z', g'⟩
      · rw [swp_same, swp_ne z] at q
        exact absurd q (hne j ys g)
      · rw [swp_ne z, swp_ne z'] at q
        exact S.inj j k ys zs g g' q
  · rcases get_set g with ⟨rfl, l, e⟩ | ⟨z, g⟩
    · rw [swp_same]
      refine ⟨h0, hB, fun z => hZ (.inl z)⟩
    · rw [swp_ne z]; exact S.sep j ys g
  · rw [upd_ne (fun z => by rw [z, h0] at q; cases q)]
    exact S.base a o q n
  ) only [↓qt_eq])
theorem chg_zz {i : Nat} {c c' : Own} (hi : G[i]? = some (.ow c)) (a : Addr) : Zs W B ad (G.set i (.ow c')) a ↔ Zs W B ad G a := qt_of (by simp (disch := with_unfolding_all
  have il : i < G.length := (List.getElem?_eq_some_iff.mp hi).1
  constructor
  · rintro (h | ⟨j, zs, g, r⟩ | h)
    · exact .inl h
    · rcases get_set g with ⟨rfl, l, e⟩ | ⟨z, g⟩
      · exact .inr (.inl ⟨i, c, hi, r⟩)
      · exact .inr (.inl ⟨j, zs, g, r⟩)
    · exact .inr (.inr h)
  · rintro (h | ⟨j, zs, g, r⟩ | h)
    · exact .inl h
    · by_cases z : i = j
      · subst z
        exact .inr (.inl ⟨i, c', List.getElem?_set_self il, r⟩)
      · exact .inr (.inl ⟨j, zs, by rw [List.getElem?_set_ne z]; exact g, r⟩)
    · exact .inr (.inr h)
  ) only [↓qt_eq])
theorem chg_ex {i : Nat} {c c' : Own} {u : HO} (hi : G[i]? = some (.ow c)) : Ex (less H (Zs W B ad G)) (less (upd H (ad i) u) (Zs W B ad (G.set i (.ow c')))) := fun a o q => by
  obtain ⟨q1, q2⟩ := less_some q
  refine less_of (fun z => q1 ((chg_zz hi a).mp z)) ?_
  rw [upd_ne (fun z => q1 (.inr (.inl ⟨i, c, hi, z⟩)))]; exact q2
/-- a thing of one's own is changed -/
theorem Sta.chg (S : Sta K W B ad H0 H σ G) {i : Nat} {c c' : Own} {vs : List V} (hi : G[i]? = some (.ow c)) (h : DpAll K (less H (Zs W B ad G)) vs c'.flat) : Sta K W B ad H0 (upd H (ad i) (c'.obj (ad i) vs)) σ (G.set i (.ow c')) := qt_of (by simp (disch := with_unfolding_all
  have ex : Ex (less H (Zs W B ad G)) (less (upd H (ad i) (c'.obj (ad i) vs)) (Zs W B ad (G.set i (.ow c')))) := chg_ex hi
  obtain ⟨s0, sB, sW⟩ := S.sep i c hi
  refine ⟨by rw [List.length_set]; exact S.len, fun j en g => ?_, fun j k ys' zs g g' q => ?_, fun j zs g => ?_, fun a o q n => ?_, S.bag.upd sB, fun a z => (S.wd a z).elim fun o q => upd_there q, fun p hp => (S.tab p hp).mono ex (upd_ne fun z => sB (z ▸ InB.tab hp))⟩
  · rcases get_set g with ⟨rfl, l, rfl⟩ | ⟨z, g⟩
    · obtain ⟨o', h1, h2, _⟩ := S.at_ i _ hi
      exact ⟨o', h1, h2, vs, upd_same, dpa_mono ex h⟩
    · obtain ⟨o', h1, h2⟩ := S.at_ j en g
      refine ⟨o', h1, ?_⟩
      cases en with
      | un => trivial
      | d d => obtain ⟨v, e, h⟩ := h2; exact ⟨v, e, dp_mono ex h⟩
      | ow zs =>
        obtain ⟨e, us, h3, h4⟩ := h2
        exact ⟨e, us, by rw [upd_ne (fun w => z (S.inj i j c zs hi g w.symm))]; exact h3, dpa_mono ex h4⟩
      | bag => exact h2
      | xc a d fs => exact ⟨h2.1, ex _ _ h2.2⟩
      | fz c => obtain ⟨a, vs, e, h1, h2⟩ := h2; exact ⟨a, vs, e, ex _ _ h1, dpa_mono ex h2⟩
      | vl v => exact h2
      | fn f d q us ds => exact ⟨h2.1, ex _ _ h2.2.1, dpa_mono ex h2.2.2⟩
      | tb T => exact h2
      | rv ρ => obtain ⟨v, e, h⟩ := h2; exact ⟨v, e, fun M m => h M fun a o q => m a o (ex a o q)⟩
  · rcases get_set g with ⟨rfl, l, e⟩ | ⟨z, g⟩
    · rcases get_set g' with ⟨rfl, l', e'⟩ | ⟨z', g'⟩
      · rfl
      · exact S.inj i k c zs hi g' q
    · rcases get_set g' with ⟨rfl, l', e'⟩ | ⟨z', g'⟩
      · exact S.inj j i ys' c g hi q
      · exact S.inj j k ys' zs g g' q
  · rcases get_set g with ⟨rfl, l, e⟩ | ⟨z, g⟩
    · exact S.sep i c hi
    · exact S.sep j zs g
  · rw [upd_ne (fun z => by rw [z, s0] at q; cases q)]
    exact S.base a o q n
  ) only [↓qt_eq])
/-- a list of one's own is from now on data -/
theorem Sta.freeze (S : Sta K W B ad H0 H σ G) {i : Nat} {xs : List PyData} (hi : G[i]? = some (.ow (ol xs))) : Sta K W B ad H0 H σ (G.set i (.d (.list xs))) := qt_of (by simp (disch := with_unfolding_all
  have ex : Ex (less H (Zs W B ad G)) (less H (Zs W B ad (G.set i (.d (.list xs))))) := less_sub fun a q => Zs.set_of (fun _ z => by cases z) q
  refine ⟨by rw [List.length_set]; exact S.len, fun j en g => ?_, fun j k ys' zs g g' q => ?_, fun j zs g => ?_, S.base, S.bag, S.wd, fun p hp => (S.tab p hp).mono ex rfl⟩
  · rcases get_set g with ⟨rfl, l, rfl⟩ | ⟨z, g⟩
    · obtain ⟨o', h1, h2, vs, h3, h4⟩ := S.at_ i _ hi
      refine ⟨o', h1, _, h2, .lst (sq_of (less_of ?_ h3)) (dpa_mono ex h4)⟩
      rintro (z | ⟨j, zs, g, r⟩ | z)
      · exact (S.sep i _ hi).2.2 z
      · rcases get_set g with ⟨rfl, _, e⟩ | ⟨z, g⟩
        · cases e
        · exact z (S.inj i j _ zs hi g r)
      · exact (S.sep i _ hi).2.1 z
    · obtain ⟨o', h1, h2⟩ := S.at_ j en g
      exact ⟨o', h1, h2.mono ex fun _ _ _ q => q⟩
  · rcases get_set g with ⟨rfl, l, e⟩ | ⟨z, g⟩
    · cases e
    · rcases get_set g' with ⟨rfl, l', e'⟩ | ⟨z', g'⟩
      · cases e'
      · exact S.inj j k ys' zs g g' q
  · rcases get_set g with ⟨rfl, l, e⟩ | ⟨z, g⟩
    · cases e
    · exact S.sep j zs g
  ) only [↓qt_eq])
/-- a thing of another's, which is new to this def, is changed -/
theorem Sta.foreign (S : Sta K W B ad H0 H σ G) {p : Addr} {o : HO} (hw : W p) (h0 : H0 p = none) (hB : ¬ InB B p) : Sta K W B ad H0 (upd H p o) σ G ∧ less (upd H p o) (Zs W B ad G) = less H (Zs W B ad G) := qt_of (by simp (disch := with_unfolding_all
  have el : less (upd H p o) (Zs W B ad G) = less H (Zs W B ad G) := by
    funext a
    by_cases z : Zs W B ad G a
    · rw [less_yes z, less_yes z]
    · rw [less_no z, less_no z, upd_ne (fun e => z (.inl (by rw [e]; exact hw)))]
  refine ⟨⟨S.len, fun i e h => ?_, S.inj, S.sep, fun a u q n => ?_, S.bag.upd hB, fun a z => (S.wd a z).elim fun o q => upd_there q, fun p' hp' => (S.tab p' hp').mono (by rw [el]; exact Ex.refl _) (upd_ne fun z => hB (z ▸ InB.tab hp'))⟩, el⟩
  · obtain ⟨u, g1, g2⟩ := S.at_ i e h
    refine ⟨u, g1, g2.mono (by rw [el]; exact Ex.refl _) fun c vs q q2 => ?_⟩
    subst q
    rw [upd_ne (fun z => (S.sep i c h).2.2 (by rw [z]; exact hw))]; exact q2
  · rw [upd_ne (fun z => by rw [z, h0] at q; cases q)]; exact S.base a u q n
  ) only [↓qt_eq])
/-- a new thing is for a while another's -/
theorem Sta.lend (S : Sta K W B ad H0 H σ G) {p : Addr} {o : HO} (hp : H p = none) : Sta K (fun a => W a ∨ a = p) B ad H0 (upd H p o) σ G ∧ less (upd H p o) (Zs (fun a => W a ∨ a = p) B ad G) = less H (Zs W B ad G) := qt_of (by simp (disch := with_unfolding_all
  obtain ⟨_, _, np⟩ := S.fresh hp
  have zz : ∀ a, Zs (fun a => W a ∨ a = p) B ad G a ↔ Zs W B ad G a ∨ a = p := fun a => by
    constructor
    · rintro ((z | z) | z | z)
      · exact .inl (.inl z)
      · exact .inr z
      · exact .inl (.inr (.inl z))
      · exact .inl (.inr (.inr z))
    · rintro ((z | z | z) | z)
      · exact .inl (.inl z)
      · exact .inr (.inl z)
      · exact .inr (.inr z)
      · exact .inl (.inr z)
  have el : less (upd H p o) (Zs (fun a => W a ∨ a = p) B ad G) = less H (Zs W B ad G) := by
    funext a
    by_cases e : a = p
    · rw [less_yes ((zz a).mpr (.inr e)), e, less_no np, hp]
    · by_cases z : Zs W B ad G a
      · rw [less_yes z, less_yes ((zz a).mpr (.inl z))]
      · rw [less_no z, less_no (fun y => ((zz a).mp y).elim z e), upd_ne e]
  have ex : Ex H (upd H p o) := Ex.new hp
  have S' := S.ext ex
  refine ⟨⟨S.len, fun i e h => ?_, S.inj, fun i c h => ⟨(S.sep i c h).1, (S.sep i c h).2.1, fun z => z.elim (S.sep i c h).2.2 fun z => np (by rw [← z]; exact .inr (.inl ⟨i, c, h, rfl⟩))⟩, S'.base, S'.bag, fun a z => z.elim (fun z => S'.wd a z) fun z => ⟨o, by rw [z]; exact upd_same⟩, fun p' hp' => (S.tab p' hp').mono (by rw [el]; exact Ex.refl _) (upd_ne fun z => np (z ▸ .inr (.inr (InB.tab hp'))))⟩, el⟩
  obtain ⟨u, g1, g2⟩ := S.at_ i e h
  exact ⟨u, g1, g2.mono (by rw [el]; exact Ex.refl _) fun c vs q q2 => ex _ _ q2⟩
  ) only [↓qt_eq])
/-- .. and is given back -/
theorem Sta.back {p : Addr} (S : Sta K (fun a => W a ∨ a = p) B ad H0 H σ G) : Sta K W B ad H0 H σ G ∧ Ex (less H (Zs (fun a => W a ∨ a = p) B ad G)) (less H (Zs W B ad G)) := qt_of (by simp (disch := with_unfolding_all
  have ex : Ex (less H (Zs (fun a => W a ∨ a = p) B ad G)) (less H (Zs W B ad G)) := less_sub fun a z => z.elim (fun z => .inl (.inl z)) .inr
  refine ⟨⟨S.len, fun i e h => ?_, S.inj, fun i c h => ⟨(S.sep i c h).1, (S.sep i c h).2.1, fun z => (S.sep i c h).2.2 (.inl z)⟩, S.base, S.bag, fun a z => S.wd a (.inl z), fun p hp => (S.tab p hp).mono ex rfl⟩, ex⟩
  obtain ⟨u, g1, g2⟩ := S.at_ i e h
  exact ⟨u, g1, g2.mono ex fun _ _ _ q => q⟩
  ) only [↓qt_eq])
theorem new_ex (S : Sta K W B ad H0 H σ G) {p : Addr} {o : HO} (h : H p = none) :
    Sta K W B ad H0 (upd H p o) σ G ∧ Xb B H (upd H p o) ∧ less (upd H p o) (Zs W B ad G) p = some o := by
  have e : Ex H (upd H p o) := Ex.new h
  exact ⟨S.ext e, .of e, less_of (S.fresh h).2.2 upd_same⟩
end
end U.N

end
section
namespace U.N
open PySem PyProof.Rows L2 Evl
/-! ### relations by name -/
@[irreducible] def rAddI : R2 := rI0 fun i j => .int (i + j)
@[irreducible] def rSubI : R2 := rI0 fun i j => .int (i - j)
@[irreducible] def rMulI : R2 := rI CMulW fun i j => .int (i * j)
@[irreducible] def rDivI : R2 := rI CDvX fun i j => .int (i.fdiv j)
@[irreducible] def rPowI : R2 := rI CPow fun i j => .int (i ^ j.toNat)
@[irreducible] def rLtI : R2 := rI0 fun i j => .bl (decide (i < j))
@[irreducible] def rGtI : R2 := rI0 fun i j => .bl (decide (j < i))
@[irreducible] def rNegI : V → Hp → VK → Prop := rU fun i => .int (-i)
section
variable {X : Cx}
theorem op_addI : OpR X (binaryOp .Add) rAddI := by unfold rAddI; exact op_add
theorem op_subI : OpR X (binaryOp .Sub) rSubI := by unfold rSubI; exact op_sub
theorem op_mulI : OpR X (binaryOp .Mult) rMulI := by unfold rMulI; exact op_mulW
theorem op_divI : OpR X (binaryOp .FloorDiv) rDivI := by unfold rDivI; exact op_fdivX
theorem op_powI : OpR X (binaryOp .Pow) rPowI := by unfold rPowI; exact op_pow
theorem op_ltI : OpR X (compareOp .Lt) rLtI := by unfold rLtI; exact op_lt
theorem op_gtI : OpR X (compareOp .Gt) rGtI := by unfold rGtI; exact op_gt
theorem un_negI : UnR X (unaryOp .USub) rNegI := by unfold rNegI; exact un_neg
end
/-! ### what is wanted -/
section
variable (K : Fg) (cs : Cs) (W : WX)
/-- what may leave by raising -/
noncomputable def XP (Wd : Addr → Prop) (B : Bt) (ad : Nat → Addr) (H0 H : Hp) (σ : St) (G : Gam) (ε : Xw → Prop) : Prop :=
  ∀ e, ε e → ∀ d H2, Sta K Wd B ad H0 H2 σ G → Xb B H H2 → H0 d = none → less H2 (Zs Wd B ad G) d = some (.xd e.fs) → W (.ref (cs e.cls)) (some d) σ H2
noncomputable def EW (te : TE) (G : Gam) (φ : PyData → Prop) (ε : Xw → Prop) : Prop :=
  ∀ Wd B ad H0 H σ, Sta K Wd B ad H0 H σ G → ∀ Q : VK, (∀ x, φ x → ∀ v H2, Sta K Wd B ad H0 H2 σ G → Xb B H H2 → Dp K (less H2 (Zs Wd B ad G)) v x → Q v H2) → XP K cs W Wd B ad H0 H σ G ε → te σ H Q
/-- a new thing of one's own -/
noncomputable def EF (te : TE) (G : Gam) (ψ : Own → Prop) (ε : Xw → Prop) : Prop :=
  ∀ Wd B ad H0 H σ, Sta K Wd B ad H0 H σ G → ∀ Q : VK, (∀ c, ψ c → ∀ a vs H2, Sta K Wd B ad H0 H2 σ G → Xb B H H2 → H2 a = none → DpAll K (less H2 (Zs Wd B ad G)) vs c.flat → Q (.ref a) (upd H2 a (c.obj a vs))) → XP K cs W Wd B ad H0 H σ G ε → te σ H Q
noncomputable def TW (tt : TT) (G : Gam) (ψ : Bool → Prop) (ε : Xw → Prop) : Prop :=
  ∀ Wd B ad H0 H σ, Sta K Wd B ad H0 H σ G → ∀ Q : Bool → Hp → Prop, (∀ b, ψ b → ∀ H2, Sta K Wd B ad H0 H2 σ G → Xb B H H2 → Q b H2) → XP K cs W Wd B ad H0 H σ G ε → tt σ H Q
noncomputable def AW (ta : TA) (G : Gam) (α : List PyData → Prop) (ε : Xw → Prop) : Prop :=
  ∀ Wd B ad H0 H σ, Sta K Wd B ad H0 H σ G → ∀ Q : List V → Hp → Prop, (∀ xs, α xs → ∀ vs H2, Sta K Wd B ad H0 H2 σ G → Xb B H H2 → DpAll K (less H2 (Zs Wd B ad G)) vs xs → Q vs H2) → XP K cs W Wd B ad H0 H σ G ε → ta σ H Q
noncomputable def IW (wi : TI) (G : Gam) (ι : List PyData → Prop) (ε : Xw → Prop) : Prop :=
  ∀ Wd B ad H0 H σ, Sta K Wd B ad H0 H σ G → ∀ R : It → Hp → Prop, (∀ ds, ι ds → ∀ J H1, Sta K Wd B ad H0 H1 σ G → Xb B H H1 → ItOk K J ds (less H1 (Zs Wd B ad G)) → R J H1) → XP K cs W Wd B ad H0 H σ G ε → wi σ H R
noncomputable def OW (to : TO) (G : Gam) (ψ : Option Int → Prop) (ε : Xw → Prop) : Prop :=
  ∀ Wd B ad H0 H σ, Sta K Wd B ad H0 H σ G → ∀ Q : Option Int → Hp → Prop, (∀ o, ψ o → ∀ H2, Sta K Wd B ad H0 H2 σ G → Xb B H H2 → Q o H2) → XP K cs W Wd B ad H0 H σ G ε → to σ H Q
inductive Out where
  | nx (G : Gam)
  | rt (x : PyData)
  | rl (c : Own)
  | bk (G : Gam)
  | ct (G : Gam)
  | ex (e : Xw) (G : Gam)
noncomputable def PostO (Wd : Addr → Prop) (B : Bt) (H0 M : Hp) (D : Ends) : Out → Prop
  | .nx G => ∀ ad H σ, Sta K Wd B ad H0 H σ G → Ex M (less H (Zs Wd B ad G)) → D.nx σ H
  | .rt x => ∀ v H, Xb B H0 H → BagOk H B → (∀ p ∈ B.T, TabZ H (fun a => Wd a ∨ InB B a) p) → Dp K (less H fun a => Wd a ∨ InB B a) v x → D.rt v H
  | .rl c => ∀ a vs H, Xb B H0 H → BagOk H B → (∀ p ∈ B.T, TabZ H (fun b => (Wd b ∨ InB B b) ∨ b = a) p) → H0 a = none → H a = some (c.obj a vs) → DpAll K (less H fun b => (Wd b ∨ InB B b) ∨ b = a) vs c.flat → D.rt (.ref a) H
  | .bk G => ∀ ad H σ, Sta K Wd B ad H0 H σ G → Ex M (less H (Zs Wd B ad G)) → D.bk σ H
  | .ct G => ∀ ad H σ, Sta K Wd B ad H0 H σ G → Ex M (less H (Zs Wd B ad G)) → D.ct σ H
  | .ex e G => ∀ d ad H σ, Sta K Wd B ad H0 H σ G → Ex M (less H (Zs Wd B ad G)) → H0 d = none → less H (Zs Wd B ad G) d = some (.xd e.fs) → W (.ref (cs e.cls)) (some d) σ H
noncomputable def SW (ts : TS) (G : Gam) (Φ : Out → Prop) : Prop :=
  ∀ Wd B ad H0 H σ (D : Ends), Sta K Wd B ad H0 H σ G → (∀ o, Φ o → PostO K cs W Wd B H0 (less H (Zs Wd B ad G)) D o) → ts D σ H
end
noncomputable def Cnd (b : Bool) (P Q : Prop) : Prop := (b = true → P) ∧ (b = false → Q)
section
variable {P Q : Prop} {b : Bool}
theorem cnd_t (p : P) : Cnd true P Q := ⟨fun _ => p, (nomatch ·)⟩
theorem cnd_f (q : Q) : Cnd false P Q := ⟨(nomatch ·), fun _ => q⟩
theorem cnd_nt (q : Q) : Cnd (!true) P Q := cnd_f q
theorem cnd_F (h : b = false) (q : Q) : Cnd b P Q := ⟨fun h' => (by rw [h] at h'; cases h'), fun _ => q⟩
theorem cnd_b (p : b = true → P) (q : b = false → Q) : Cnd b P Q := ⟨p, q⟩
theorem cnd_d {p : Prop} [Decidable p] (x : p → P) (y : ¬ p → Q) : Cnd (decide p) P Q := ⟨fun h => x (of_decide_eq_true h), fun h => y (of_decide_eq_false h)⟩
theorem cnd_nd {p : Prop} [Decidable p] (x : ¬ p → P) (y : p → Q) : Cnd (!decide p) P Q := ⟨fun h => x (fun z => by rw [decide_eq_true z] at h; cases h), fun h => y (Classical.byContradiction fun z => by rw [decide_eq_false z] at h; cases h)⟩
end
section
variable {K : Fg} {cs : Cs} {W : WX} {G G' G1 G2 : Gam} {ta tb tc te : TE} {t u : TT} {φ : PyData → Prop} {ε : Xw → Prop} {ψ : Bool → Prop} {α : List PyData → Prop} {ι : List PyData → Prop} {χ : Own → Prop} {ω : Option Int → Prop}
variable {Wd : Addr → Prop} {B : Bt} {ad : Nat → Addr} {H0 H H1 H2 : Hp} {σ : St}
theorem XP.go (h : XP K cs W Wd B ad H0 H σ G ε) (x : Xb B H H1) : XP K cs W Wd B ad H0 H1 σ G ε := fun e he d H2 S y hd hx => h e he d H2 S (x.trans y) hd hx
theorem ew_mono {φ' : PyData → Prop} (h : EW K cs W te G φ ε) (m : ∀ x, φ x → φ' x) : EW K cs W te G φ' ε := fun Wd B ad H0 H σ S Q q x => h Wd B ad H0 H σ S Q (fun y hy => q y (m y hy)) x
theorem aw_mono {α' : List PyData → Prop} {ta : TA} (h : AW K cs W ta G α ε) (m : ∀ x, α x → α' x) : AW K cs W ta G α' ε := fun Wd B ad H0 H σ S Q q x => h Wd B ad H0 H σ S Q (fun y hy => q y (m y hy)) x
theorem tw_mono {ψ' : Bool → Prop} (h : TW K cs W t G ψ ε) (m : ∀ x, ψ x → ψ' x) : TW K cs W t G ψ' ε := fun Wd B ad H0 H σ S Q q x => h Wd B ad H0 H σ S Q (fun y hy => q y (m y hy)) x
/-! ### values -/
theorem ew_var {i : Nat} {x : PyData} (h : G[i]? = some (.d x)) (p : φ x) : EW K cs W (tVar i) G φ ε := fun Wd B ad H0 H σ S Q q _ => by
  obtain ⟨o, h1, v, rfl, h2⟩ := S.at_ i _ h
  exact ⟨v, h1, q x p v H S Xb.refl h2⟩
theorem ew_glob {v : V} {x : PyData} (h : ∀ H, Dp K H v x) (p : φ x) : EW K cs W (tC v) G φ ε := fun Wd B ad H0 H σ S Q q _ => q x p _ H S Xb.refl (h _)
theorem ew_int {i : Int} (p : φ (.int i)) : EW K cs W (tC (.int i)) G φ ε := ew_glob (fun _ => .int i) p
theorem ew_bl {b : Bool} (p : φ (.bool b)) : EW K cs W (tC (.bl b)) G φ ε := ew_glob (fun _ => .bl b) p
/-! ### arguments, displays -/
theorem aw_nil (p : α []) : AW K cs W tNil G α ε := fun Wd B ad H0 H σ S Q q _ => q _ p _ H S Xb.refl .nil
theorem aw_cons {tr : TA} (h : EW K cs W ta G (fun x => AW K cs W tr G (fun xs => α (x :: xs)) ε) ε) : AW K cs W (tCons ta tr) G α ε := fun Wd B ad H0 H σ S Q q x =>
  h Wd B ad H0 H σ S _ (fun x1 p1 v H1 S1 e1 d1 => p1 Wd B ad H0 H1 σ S1 _ (fun xs p2 vs H2 S2 e2 d2 => q _ p2 _ H2 S2 (e1.trans e2) (.cons (dp_mono (Xb.lz e2) d1) d2)) (x.go e1)) x
theorem ew_ef (h : EF K cs W te G (fun c => ∃ xs, c = ol xs ∧ φ (.list xs)) ε) : EW K cs W te G φ ε := fun Wd B ad H0 H σ S Q q x =>
  h Wd B ad H0 H σ S _ (fun c p a vs H2 S2 e2 hn d => by
    obtain ⟨xs, rfl, p⟩ := p
    obtain ⟨S3, e3, g⟩ := new_ex (o := .lst vs) S2 hn
    exact q _ p _ _ S3 (e2.trans e3) (.lst (sq_of g) (dpa_mono (Xb.lz e3) d))) x
theorem ew_tup {ta : TA} (h : AW K cs W ta G (fun xs => xs.length ≤ 16000000 ∧ φ (.tuple xs)) ε) : EW K cs W (tTup ta) G φ ε := fun Wd B ad H0 H σ S Q q x =>
  h Wd B ad H0 H σ S _ (fun xs p vs H1 S1 e1 d1 => ⟨by rw [dpa_len d1]; exact sz_line p.1, fun a ha => by
    obtain ⟨S2, e2, g⟩ := new_ex (o := .tup vs) S1 ha
    exact q _ p.2 _ _ S2 (e1.trans e2) (.tup (st_of g) (dpa_mono (Xb.lz e2) d1))⟩) x
theorem ef_lst {ta : TA} (h : AW K cs W ta G (fun xs => xs.length ≤ 16000000 ∧ χ (ol xs)) ε) : EF K cs W (tLst ta) G χ ε := fun Wd B ad H0 H σ S Q q x =>
  h Wd B ad H0 H σ S _ (fun xs p vs H1 S1 e1 d1 => ⟨by rw [dpa_len d1]; exact sz_line p.1, fun a ha => q _ p.2 a vs H1 S1 e1 ha d1⟩) x
/-! ### operators -/
theorem ew_op {r : R2} (h : EW K cs W ta G (fun x => EW K cs W tb G (fun y => ∀ Wd B ad H0 H σ v w, Sta K Wd B ad H0 H σ G → Dp K (less H (Zs Wd B ad G)) v x → Dp K (less H (Zs Wd B ad G)) w y → ∀ Q : VK, (∀ z, φ z → ∀ v H2, Sta K Wd B ad H0 H2 σ G → Xb B H H2 → Dp K (less H2 (Zs Wd B ad G)) v z → Q v H2) → r v w H Q) ε) ε) : EW K cs W (tOp r ta tb) G φ ε := fun Wd B ad H0 H σ S Q q x =>
  h Wd B ad H0 H σ S _ (fun x1 p1 v H1 S1 e1 d1 => p1 Wd B ad H0 H1 σ S1 _ (fun y p2 w H2 S2 e2 d2 => p2 Wd B ad H0 H2 σ v w S2 (dp_mono (Xb.lz e2) d1) d2 Q fun z p v H3 S3 e3 d3 => q z p v H3 S3 ((e1.trans e2).trans e3) d3) (x.go e1)) x
theorem ew_I0 {g : Int → Int → V} {f : Int → Int → PyData} (hg : ∀ i j H, Dp K H (g i j) (f i j)) (h : EW K cs W ta G (fun x => ∃ i, x = .int i ∧ EW K cs W tb G (fun y => ∃ j, y = .int j ∧ φ (f i j)) ε) ε) : EW K cs W (tOp (rI0 g) ta tb) G φ ε :=
  ew_op (ew_mono h fun x ⟨i, e, h⟩ => ew_mono h fun y ⟨j, e2, p⟩ => fun Wd B ad H0 H σ v w S d1 d2 Q q => by
    subst e; subst e2
    cases d1; cases d2
    exact ⟨i, j, rfl, rfl, q _ p _ H S Xb.refl (hg i j _)⟩)
theorem ew_I {C : Int → Int → Prop} {g : Int → Int → V} {f : Int → Int → PyData} (hg : ∀ i j H, Dp K H (g i j) (f i j)) (h : EW K cs W ta G (fun x => ∃ i, x = .int i ∧ EW K cs W tb G (fun y => ∃ j, y = .int j ∧ C i j ∧ φ (f i j)) ε) ε) : EW K cs W (tOp (rI C g) ta tb) G φ ε :=
  ew_op (ew_mono h fun x ⟨i, e, h⟩ => ew_mono h fun y ⟨j, e2, c, p⟩ => fun Wd B ad H0 H σ v w S d1 d2 Q q => by
    subst e; subst e2
    cases d1; cases d2
    exact ⟨i, j, rfl, rfl, c, q _ p _ H S Xb.refl (hg i j _)⟩)
theorem ew_add (h : EW K cs W ta G (fun x => ∃ i, x = .int i ∧ EW K cs W tb G (fun y => ∃ j, y = .int j ∧ φ (.int (i + j))) ε) ε) : EW K cs W (tOp rAddI ta tb) G φ ε := by unfold rAddI; exact ew_I0 (f := fun i j => .int (i + j)) (fun _ _ _ => .int _) h
theorem ew_sub (h : EW K cs W ta G (fun x => ∃ i, x = .int i ∧ EW K cs W tb G (fun y => ∃ j, y = .int j ∧ φ (.int (i - j))) ε) ε) : EW K cs W (tOp rSubI ta tb) G φ ε := by unfold rSubI; exact ew_I0 (f := fun i j => .int (i - j)) (fun _ _ _ => .int _) h
theorem ew_mul (h : EW K cs W ta G (fun x => ∃ i, x = .int i ∧ EW K cs W tb G (fun y => ∃ j, y = .int j ∧ CMulW i j ∧ φ (.int (i * j))) ε) ε) : EW K cs W (tOp rMulI ta tb) G φ ε := by unfold rMulI; exact ew_I (f := fun i j => .int (i * j)) (fun _ _ _ => .int _) h
theorem ew_div (h : EW K cs W ta G (fun x => ∃ i, x = .int i ∧ EW K cs W tb G (fun y => ∃ j, y = .int j ∧ CDvX i j ∧ φ (.int (i.fdiv j))) ε) ε) : EW K cs W (tOp rDivI ta tb) G φ ε := by unfold rDivI; exact ew_I (f := fun i j => .int (i.fdiv j)) (fun _ _ _ => .int _) h
theorem ew_pow (h : EW K cs W ta G (fun x => ∃ i, x = .int i ∧ EW K cs W tb G (fun y => ∃ j, y = .int j ∧ CPow i j ∧ φ (.int (i ^ j.toNat))) ε) ε) : EW K cs W (tOp rPowI ta tb) G φ ε := by unfold rPowI; exact ew_I (f := fun i j => .int (i ^ j.toNat)) (fun _ _ _ => .int _) h
theorem ew_lt (h : EW K cs W ta G (fun x => ∃ i, x = .int i ∧ EW K cs W tb G (fun y => ∃ j, y = .int j ∧ φ (.bool (decide (i < j)))) ε) ε) : EW K cs W (tOp rLtI ta tb) G φ ε := by unfold rLtI; exact ew_I0 (f := fun i j => .bool (decide (i < j))) (fun _ _ _ => .bl _) h
theorem ew_gt (h : EW K cs W ta G (fun x => ∃ i, x = .int i ∧ EW K cs W tb G (fun y => ∃ j, y = .int j ∧ φ (.bool (decide (j < i)))) ε) ε) : EW K cs W (tOp rGtI ta tb) G φ ε := by unfold rGtI; exact ew_I0 (f := fun i j => .bool (decide (j < i))) (fun _ _ _ => .bl _) h
theorem ew_neg (h : EW K cs W ta G (fun x => ∃ i, x = .int i ∧ φ (.int (-i))) ε) : EW K cs W (tUn rNegI ta) G φ ε := by
 unfold rNegI
 exact fun Wd B ad H0 H σ S Q q x => h Wd B ad H0 H σ S _ (fun y ⟨i, e, p⟩ v H1 S1 e1 d1 => by
    subst e
    cases d1
    exact ⟨i, rfl, q _ p _ H1 S1 e1 (.int _)⟩) x
/-- == of scalars -/
noncomputable def scEq : PyData → PyData → Option Bool
  | .int i, .int j => some (decide (i = j))
  | .str i, .str j => some (decide (i = j))
  | .bool i, .bool j => some (decide (i = j))
  | .none, .none => some true
  | _, _ => none
theorem sc_eq {H : Hp} {v w : V} {x y : PyData} {b : Bool} (d1 : Dp K H v x) (d2 : Dp K H w y) (h : scEq x y = some b) : scal v w = true ∧ decide (v = w) = b := by
  cases d1 <;> cases d2 <;> first | (cases h; done) | skip
  · cases h; exact ⟨rfl, rfl⟩
  · cases h; exact ⟨rfl, by simp⟩
  · cases h; exact ⟨rfl, by simp⟩
  · cases h; exact ⟨rfl, by simp⟩
theorem ew_eq (h : EW K cs W ta G (fun x => EW K cs W tb G (fun y => ∃ b, scEq x y = some b ∧ φ (.bool b)) ε) ε) : EW K cs W (tOp rEq ta tb) G φ ε :=
  ew_op (ew_mono h fun x h => ew_mono h fun y ⟨b, e, p⟩ => fun Wd B ad H0 H σ v w S d1 d2 Q q => by
    obtain ⟨h1, h2⟩ := sc_eq d1 d2 e
    exact ⟨h1, by rw [h2]; exact q _ p _ H S Xb.refl (.bl _)⟩)
theorem ew_ne (h : EW K cs W ta G (fun x => EW K cs W tb G (fun y => ∃ b, scEq x y = some b ∧ φ (.bool (!b))) ε) ε) : EW K cs W (tOp rNe ta tb) G φ ε :=
  ew_op (ew_mono h fun x h => ew_mono h fun y ⟨b, e, p⟩ => fun Wd B ad H0 H σ v w S d1 d2 Q q => by
    obtain ⟨h1, h2⟩ := sc_eq d1 d2 e
    exact ⟨h1, by rw [h2]; exact q _ p _ H S Xb.refl (.bl _)⟩)
theorem ew_neD (h : EW K cs W ta G (fun x => EW K cs W tb G (fun y => SeqAt.shaped x = true ∧ SeqAt.shaped y = true ∧ φ (.bool (!PyData.eqv x y))) ε) ε) : EW K cs W (tOp (rNeD K) ta tb) G φ ε :=
  ew_op (ew_mono h fun x h => ew_mono h fun y ⟨h1, h2, p⟩ => fun Wd B ad H0 H σ v w S d1 d2 Q q => ⟨x, y, dp_mono less_ex d1, dp_mono less_ex d2, h1, h2, q _ p _ H S Xb.refl (.bl _)⟩)
end
end U.N

end
section
/-! Dicts whose keys are tuples, nested ones too: by what they hold. -/
namespace U
open PySem PySem.Spec PyProof.Rows L2 Evl
noncomputable abbrev NK := NestedKey
mutual
/-- data as keys -/
noncomputable def toK : PyData → Option NK
  | .none => some .none
  | .int i => some (.num i)
  | .str x => some (.text x)
  | .tuple xs => (toKs xs).map .tup
  | _ => none
noncomputable def toKs : List PyData → Option (List NK)
  | [] => some []
  | x :: xs => (toK x).bind fun k => (toKs xs).map (k :: ·)
end
section
variable {X : Cx} {pins : List (Addr × Obj)} {σ : L2.St} {H : Hp} {s : Shared}
mutual
theorem nk_is (I : Inv X pins σ H s) : ∀ {x : PyData} {v : V} {u : Value} {k : NK}, Dp X.K H v x → RelV v u → toK x = some k → NestedIs s.heap k u
  | _, _, _, _, .non, r, e => by cases e; cases r; exact .none
  | _, _, _, _, .bl b, r, e => by cases e
  | _, _, _, _, .int i, r, e => by
    cases e
    obtain ⟨t, rfl⟩ := r
    exact .int i t
  | _, _, _, _, .str x, r, e => by
    cases e
    obtain ⟨t, rfl⟩ := r
    exact .text x t
  | _, _, _, _, .lst h t, r, e => by cases e
  | .tuple xs, _, _, _, .tup h t, r, e => by
    have e : (toKs xs).map NestedKey.tup = some _ := e
    obtain ⟨ks, hks, rfl⟩ := Option.map_eq_some_iff.mp e
    cases r
    obtain ⟨its, rv, ⟨o, h1, h2, n, h3⟩, _⟩ := I.tuple h
    exact .tup h1 h2 h3 (by rw [List.toList_toArray]; exact nk_all I t rv hks)
theorem nk_all (I : Inv X pins σ H s) : ∀ {xs : List PyData} {vs : List V} {us : List Value} {ks : List NK}, DpAll X.K H vs xs → Vals vs us → toKs xs = some ks → NestedAll s.heap ks us
  | _, _, _, _, .nil, r, e => by cases e; cases r; exact .nil
  | x :: xs, _, _, _, .cons h t, r, e => by
    have e : ((toK x).bind fun k => (toKs xs).map (k :: ·)) = some _ := e
    obtain ⟨k, hk, e⟩ := Option.bind_eq_some_iff.mp e
    obtain ⟨ks, hks, rfl⟩ := Option.map_eq_some_iff.mp e
    cases r with
    | cons a b => exact .cons (nk_is I h a hk) (nk_all I t b hks)
end
/-- the tuple at b is the key k -/
noncomputable def KeyIs (K : Fg) (H : Hp) (k : NK) (b : Addr) : Prop := ∃ x, Dp K H (.ref b) x ∧ toK x = some k ∧ k.depth ≤ 8
theorem KeyIs.nk {k : NK} {b : Addr} (I : Inv X pins σ H s) (h : KeyIs X.K H k b) : (nestedKind X.prog X.w).is s.heap k b := by
  obtain ⟨x, hd, hk, hl⟩ := h
  exact ⟨nk_is I hd rfl hk, hl⟩
end
noncomputable abbrev Ent := NK × Addr × V
inductive Es : List Ent → List (NK × Addr × Value) → Prop
  | nil : Es [] []
  | cons {k : NK} {b : Addr} {v : V} {u : Value} {es : List Ent} {xs : List (NK × Addr × Value)} : RelV v u → Es es xs → Es ((k, b, v) :: es) ((k, b, u) :: xs)
theorem Es.len : ∀ {es : List Ent} {xs : List (NK × Addr × Value)}, Es es xs → es.length = xs.length
  | _, _, .nil => rfl
  | _, _, .cons _ t => congrArg (· + 1) t.len
theorem Es.keys : ∀ {es : List Ent} {xs : List (NK × Addr × Value)}, Es es xs → es.map (·.1) = xs.map (·.1)
  | _, _, .nil => rfl
  | _, _, .cons _ t => by rw [List.map_cons, List.map_cons, t.keys]
theorem Es.snoc : ∀ {es : List Ent} {xs : List (NK × Addr × Value)} {k : NK} {b : Addr} {v : V} {u : Value}, Es es xs → RelV v u → Es (es ++ [(k, b, v)]) (xs ++ [(k, b, u)])
  | _, _, _, _, _, _, .nil, r => .cons r .nil
  | _, _, _, _, _, _, .cons a t, r => .cons a (t.snoc r)
noncomputable def findE (es : List Ent) (k : NK) : Option V := (es.find? fun e => decide (e.1 = k)).map (·.2.2)
noncomputable def putE (es : List Ent) (k : NK) (b : Addr) (v : V) : List Ent := if (findE es k).isSome then es.map (fun e => if e.1 = k then (e.1, e.2.1, v) else e) else es ++ [(k, b, v)]
theorem Es.find : ∀ {es : List Ent} {xs : List (NK × Addr × Value)} {k : NK}, Es es xs → (findE es k = none ∧ atKey xs k = none) ∨ ∃ v p, findE es k = some v ∧ atKey xs k = some p ∧ RelV v p.2
  | _, _, _, .nil => .inl ⟨rfl, rfl⟩
  | (k', b, v) :: es, (_, _, u) :: xs, k, .cons r t => by
    by_cases h : k' = k
    · exact .inr ⟨v, (b, u), by simp [findE, h], by simp [atKey, h], r⟩
    · have e1 : findE ((k', b, v) :: es) k = findE es k := by simp [findE, h]
      have e2 : atKey ((k', b, u) :: xs) k = atKey xs k := by simp [atKey, h]
      rw [e1, e2]
      exact t.find
theorem Es.mput {k : NK} {v : V} {u : Value} (r : RelV v u) : ∀ {es : List Ent} {xs : List (NK × Addr × Value)}, Es es xs → Es (es.map (fun e => if e.1 = k then (e.1, e.2.1, v) else e)) (xs.map (putAt k u))
  | _, _, .nil => .nil
  | (k', b, v') :: es, (_, _, u') :: xs, .cons a t => by
    rw [List.map_cons, List.map_cons, putAt]
    by_cases h : k' = k
    · rw [if_pos h, if_pos h]
      exact .cons r (t.mput r)
    · rw [if_neg h, if_neg h]
      exact .cons a (t.mput r)
theorem Es.put {k : NK} {b : Addr} {v : V} {u : Value} {es : List Ent} {xs : List (NK × Addr × Value)} (h : Es es xs) (r : RelV v u) : Es (putE es k b v) (storedH xs k b u) := by
  unfold putE storedH
  rcases h.find (k := k) with ⟨e1, e2⟩ | ⟨v', p, e1, e2, _⟩
  · rw [e1, e2]
    exact h.snoc r
  · rw [e1, e2]
    exact h.mput r
theorem putE_len {es : List Ent} {k : NK} {b : Addr} {v : V} : (putE es k b v).length ≤ es.length + 1 := by
  unfold putE
  split
  · rw [List.length_map]; omega
  · rw [List.length_append]; exact Nat.le_refl _
/-- a key that may stand in a dict -/
noncomputable def KGood (k : NK) : Prop := k.depth ≤ 8 ∧ ∃ ks, k = .tup ks
noncomputable def toKd (x : PyData) : NK := (toK x).getD .none
theorem toKd_good {x : PyData} (h : KGood (toKd x)) : toK x = some (toKd x) := by
  obtain ⟨_, ks, h⟩ := h
  unfold toKd at h ⊢
  cases e : toK x with
  | none => rw [e] at h; cases h
  | some k => rfl
/-- the tuple at b is the key k, if k is one -/
noncomputable def KeyW (K : Fg) (H : Hp) (k : NK) (b : Addr) : Prop := ∃ x, Dp K H (.ref b) x ∧ toKd x = k
theorem KeyW.is {K : Fg} {H : Hp} {k : NK} {b : Addr} (h : KeyW K H k b) (g : KGood k) : KeyIs K H k b := by
  obtain ⟨x, hd, rfl⟩ := h
  exact ⟨x, hd, toKd_good g, g.1⟩
theorem KeyIs.good {K : Fg} {H : Hp} {k : NK} {b : Addr} (h : KeyIs K H k b) : KGood k := qt_of (by simp (disch := with_unfolding_all
  obtain ⟨x, hd, hk, hl⟩ := h
  refine ⟨hl, ?_⟩
  cases hd with
  | lst a b => cases hk
  | tup a b =>
    obtain ⟨ks, _, e⟩ := Option.map_eq_some_iff.mp (show (toKs _).map NestedKey.tup = some k from hk)
    exact ⟨ks, e.symm⟩
  ) only [↓qt_eq])
/-- the dict at a holds es; ep its epoch -/
noncomputable def DctN (w : World) (h : Heap) (a : Addr) (ep : Nat) (es : List Ent) : Prop := es.length ≤ sizeLine ∧ (a == sysModules) = false ∧ ((es.map (·.1)).Nodup ∧ ∀ e ∈ es, KGood e.1) ∧
  ∃ o ent xs, h.get? a = some o ∧ o.ExactDict ∧ o.data = .dict ent ep ∧ Es es xs ∧ ent.toList = xs.map fun x => ⟨x.1.hash w, .ref x.2.1, x.2.2⟩
noncomputable def DctO (w : World) (a : Addr) (ep : Nat) (es : List Ent) : HO := .ext fun h => DctN w h a ep es
/-- the dict at a, its keys tuples that H holds -/
noncomputable def DctH (K : Fg) (w : World) (H : Hp) (a : Addr) (ep : Nat) (es : List Ent) : Prop := H a = some (DctO w a ep es) ∧ ∀ e ∈ es, KeyW K H e.1 e.2.1
section
variable {X : Cx} {pins : List (Addr × Obj)} {σ : L2.St} {H : Hp} {s : Shared} {a b : Addr} {ep : Nat} {es : List Ent} {k : NK}
theorem dct_ok {P : Program} {w : World} {h : Heap} (R : DctN w h a ep es) : ObjOk P w H h a (DctO w a ep es) := by
  obtain ⟨h1, h2, h3, o, ent, xs, ho, r⟩ := id R
  refine ⟨R, ⟨o, ho⟩, fun h1 h2 p q => ?_⟩
  obtain ⟨k1, k2, k3, o', ent', xs', ho', r'⟩ := p
  exact ⟨k1, k2, k3, o', ent', xs', q _ ho', r'⟩
theorem dct_at (I : Inv X pins σ H s) (hD : H a = some (DctO X.w a ep es)) : DctN X.w s.heap a ep es :=
  have ok : ObjOk X.prog X.w H s.heap a (DctO X.w a ep es) := I.hok a _ hD
  ok.1
theorem es_keys {P : NK → Addr → Prop} : ∀ {es : List Ent} {xs : List (NK × Addr × Value)}, Es es xs → (∀ e ∈ es, P e.1 e.2.1) → ∀ x ∈ xs, P x.1 x.2.1
  | _, _, .nil, _, x, hx => nomatch hx
  | _, _, .cons (k := k) (b := b) (v := v) (es := es) r t, hk, x, hx => by
    rcases List.mem_cons.mp hx with rfl | hx
    · exact hk _ (List.mem_cons_self ..)
    · exact es_keys t (fun e he => hk e (List.mem_cons_of_mem _ he)) x hx
theorem dct_h (I : Inv X pins σ H s) (hD : DctH X.K X.w H a ep es) : ∃ xs, Es es xs ∧ s.heap.DictOfH (nestedKind X.prog X.w) a xs ∧ (a == sysModules) = false ∧ xs.length ≤ sizeLine := qt_of (by simp (disch := with_unfolding_all
  obtain ⟨hD, hk⟩ := hD
  obtain ⟨h1, h2, h3, o, ent, xs, ho, hc, hd, he, hl⟩ := dct_at I hD
  refine ⟨xs, he, ⟨o, ent, ep, ho, hc, hd, hl, fun x hx => ?_, by rw [← he.keys]; exact h3.1⟩, h2, by rw [← he.len]; exact h1⟩
  exact (es_keys (P := fun k b => KeyIs X.K H k b) he (fun e m => (hk e m).is (h3.2 e m)) x hx).nk I
  ) only [↓qt_eq])
theorem dct_of (hg : ∀ e ∈ es, KGood e.1) {P : Program} {w : World} {h : Heap} {xs : List (NK × Addr × Value)} (he : Es es xs) (hm : h.DictOfH (nestedKind P w) a xs) (hd : (a == sysModules) = false) (hl : es.length ≤ sizeLine) : ∃ ep, DctN w h a ep es := by
  obtain ⟨o, ent, ep, ho, hc, hdat, e, his, hn⟩ := hm
  exact ⟨ep, hl, hd, ⟨by rw [he.keys]; exact hn, hg⟩, o, ent, xs, ho, hc, hdat, he, e⟩
/-! ### {}, d[k], d[k] = v, d.get(k, x) -/
theorem dct_new (h : Heap) (w : World) (hb : sysModules < h.objs.size) : DctN w (h.push { cls := .type "dict", data := .dict #[] }) h.objs.size 0 [] :=
  ⟨Nat.zero_le _, beq_eq_false_iff_ne.mpr (Ne.symm (Nat.ne_of_lt hb)), ⟨List.nodup_nil, fun _ h => nomatch h⟩, _, #[], [], Heap.get?_push_size _ rfl, ⟨rfl, rfl, rfl⟩, rfl, .nil, rfl⟩
/-- d[k] -/
noncomputable def rDx (K : Fg) (w : World) : R2 := fun x y H Q => ∃ a b ep es k v, x = .ref a ∧ y = .ref b ∧ DctH K w H a ep es ∧ KeyIs K H k b ∧ findE es k = some v ∧ Q v H
theorem room_in1 {A : Around} (hu : A.units + 9 < cLine) : (nestedKind X.prog X.w).room A.in1 := by
  show A.in1.units + 8 < cLine
  have : A.in1.units = A.units + 1 := rfl
  omega
theorem ix_dct (hu : X.A.units + 9 < cLine) : IxR X (rDx X.K X.w) := by
  intro value slice pins s σ H x y v u Q I rx ry h hs
  obtain ⟨a, b, ep, es, k, r, rfl, rfl, hD, hk, hf, q⟩ := h
  obtain rfl : v = Value.ref a := rx
  obtain rfl : u = Value.ref b := ry
  obtain ⟨xs, he, hm, h1, h2⟩ := dct_h I hD
  rcases he.find (k := k) with ⟨e, _⟩ | ⟨v', p, e1, e2, e3⟩
  · rw [hf] at e; cases e
  · rw [hf] at e1
    cases e1
    exact tail_any hm.typeIs PySem.F.slot_dict_getitem.lookup (wpAny_getItem_heap (room_in1 hu) (hk.nk I) hm e2 ⟨r, H, I.tok _, e3, q⟩) hs
theorem putE_good {v : V} (hg : ∀ e ∈ es, KGood e.1) (hk : KGood k) : ∀ e ∈ putE es k b v, KGood e.1 := fun e he => by
  unfold putE at he
  split at he
  · obtain ⟨e', h1, rfl⟩ := List.mem_map.mp he
    by_cases z : e'.1 = k
    · rw [if_pos z]; exact hg e' h1
    · rw [if_neg z]; exact hg e' h1
  · rcases List.mem_append.mp he with h | h
    · exact hg e h
    · rw [List.mem_singleton.mp h]; exact hk
theorem dct_put (hk : KGood k) {h' : Heap} {xs : List (NK × Addr × Value)} {t' : Nat} {v : V} {r : Value} (I : Inv X pins σ H s) (hD : H a = some (DctO X.w a ep es)) (he : Es es xs) (rv : RelV v r) (h1 : (a == sysModules) = false) (hl : es.length < sizeLine) (hm' : h'.DictOfH (nestedKind X.prog X.w) a (storedH xs k b r)) (hs : Heap.SameBut a s.heap h') : ∃ ep', Inv X pins σ (upd H a (DctO X.w a ep' (putE es k b v))) { s with heap := h', toks := t' } := qt_of (by simp (disch := with_unfolding_all
  have hz : (putE es k b v).length ≤ sizeLine := Nat.le_trans putE_len hl
  obtain ⟨ep', hN⟩ := dct_of (putE_good (dct_at I hD).2.2.1.2 hk) (he.put (k := k) (b := b) rv) hm' h1 hz
  have hq : ∃ q, h'.get? a = some q := let ⟨q, _, _, hq, _⟩ := hm'; ⟨q, hq⟩
  exact ⟨ep', d_write I (by rw [hD]; exact True.intro) hs hq (dct_ok hN)⟩
  ) only [↓qt_eq])
end
end U

end
section
/-! Dicts with tuple keys: walked, and made by a comprehension. -/
namespace U
open PySem PySem.Spec PyProof.Rows L2 Evl
section
variable {P : Program} {w : World} {K : Fg} {tg : Expr} {d : Addr} {ep : Nat} {es : List Ent}
end
section
variable {X : Cx} {tg e : Expr} {td : TE}
end
section
variable {X : Cx} {pins : List (Addr × Obj)} {σ : L2.St} {H : Hp} {s : Shared}
theorem dct_dset {E : Value → Shared → Prop} {D b : Addr} {ep : Nat} {es : List Ent} {k : NK} {v : V} {u r : Value} {Q : Unit → Shared → Prop} (hu : X.A.units + 9 < cLine) (I : Inv X pins σ H s) (hD : DctH X.K X.w H D ep es) (hk : KeyIs X.K H k b) (hz : es.length < sizeLine)
    (ry : RelV (.ref b) u) (rv : RelV v r) (h : ∀ ep' s', Inv X pins σ (upd H D (DctO X.w D ep' (putE es k b v))) s' → Q () s') : wpAny (model X.prog X.w) X.A (dictSet D u r) Q E s := qt_of (by simp (disch := with_unfolding_all
  obtain rfl : u = Value.ref b := ry
  obtain ⟨xs, he, hm, h1, h2⟩ := dct_h I hD
  have hr : (nestedKind X.prog X.w).room X.A := by
    show X.A.units + 8 < cLine
    omega
  refine wpAny_dictSet_heap (hsz := h2) hr (hk.nk I) hm fun h' hm' hs => ?_
  obtain ⟨ep', I'⟩ := dct_put hk.good (t' := s.toks + (nestedKind X.prog X.w).draws k) I hD.1 he rv h1 hz hm' hs
  exact h ep' _ I'
  ) only [↓qt_eq])
end
section
variable {X : Cx}
/-- {k: v for target in iter if ..}, keys tuples: D the new dict (follows HandS.DictComp, whose keys are ints and texts) -/
noncomputable def tDcd (K : Fg) (w : World) (wi : TI) (g : TG) (tt : TT) (tk tv : TE) (vs : List Nat) : TE := fun σ H Q => wi σ H fun J H1 => ∀ D, H1 D = none → ∃ W : Nat → Nat → Hp → Prop, (∃ m, W 0 m (upd H1 D (DctO w D 0 []))) ∧ ∀ i m H, W i m H →
  (J.stop i H ∧ Q (.ref D) H) ∨ (J.go i H ∧ ∃ Nx : Hp → Prop, (∀ H', Nx H' → ∃ m', m' < m ∧ W (i + 1) m' H') ∧ ∀ x H', J.yld i H x H' → g x (wipe σ vs) H' fun σ2 H2 => wipe σ2 vs = wipe σ vs ∧ tt σ2 H2 fun b H3 =>
    if b = true then tk σ2 H3 fun y H4 => tv σ2 H4 fun z H5 => ∃ b ep es k, y = .ref b ∧ DctH K w H5 D ep es ∧ KeyIs K H5 k b ∧ es.length < sizeLine ∧ ∀ ep', Nx (upd H5 D (DctO w D ep' (putE es k b z))) else Nx H3)
theorem dcd_core {pins : List (Addr × Obj)} {s : Shared} {σ : St} {H : Hp} {Q : VK} {kx vx tg iter : Expr} {ifs : List Expr} {scope : Scope} {own : List (Str × Nat)} {pos pos' : Pos} {wi : TI} {g : TG} {tt : TT} {tk tv : TE} {use : Option (Value → Sem Unit)} {Qf : Value → Shared → Prop}
    (hu : X.A.units + 9 < cLine) (hc : X.calm = true) (hN : X.N.Nodup) (I : Inv X pins σ H s) (hi : PI X tg iter wi) (ok : BlkOk X.N X.env.scope scope own)
    (hg : ∀ (s : Shared) (H : Hp) (C : Addr) (cl : List (Str × Addr)) (fp : List Addr), PG (X.blk s H scope (compEnvC scope cl C X.env) fp) tg g) (ht : ∀ (s : Shared) (H : Hp) (C : Addr) (cl : List (Str × Addr)) (fp : List Addr), PTs (X.blk s H scope (compEnvC scope cl C X.env) fp) ifs tt)
    (hk : ∀ (s : Shared) (H : Hp) (C : Addr) (cl : List (Str × Addr)) (fp : List Addr), PE (X.blk s H scope (compEnvC scope cl C X.env) fp) kx tk)
    (he : ∀ (s : Shared) (H : Hp) (C : Addr) (cl : List (Str × Addr)) (fp : List Addr), PE (X.blk s H scope (compEnvC scope cl C X.env) fp) vx tv) (hs : ∀ x, foldedSetIterable iter X.env x = pure x)
    (h : tDcd X.K X.w wi g tt tk tv (own.map (·.2)) σ H Q)
    (hRR : ∀ D C s' m H', Inv X pins σ H' s' → Q (.ref D) H' → s'.heap.Ns C m → FpOk X pins H' C → compPost (model X.prog X.w) X.A X.xe use Qf (.ref D) C (.ok .next) s') :
    wpAny (model X.prog X.w) X.A (comprehension (.DictComp kx vx [⟨tg, iter, ifs, 0⟩] scope pos) scope X.env pos' newDict false (eval iter X.env) use) Qf X.xe s := qt_of (by simp (disch := with_unfolding_all
  have hfree : ∀ y ∈ scope.names, y.2 = .free → ∃ c, X.env.cells.lookup y.1 = some c := fun y hy e => by
    rcases ok.free y hy e with k | k
    · exact I.ok.has _ (.inl k)
    · exact I.ok.has _ (.inr k)
  refine wpAny_comprehension_free (use := use) rfl hs (closure_ok hfree) ok.kind (fun y hy e => by rw [ok.uniq y hy, e])
    (thn (hi.run pins s σ H _ I h) fun xv s1 hx => thn hx fun itv s2 h2 => ?_)
  obtain ⟨it, fp, tn, J, H2, e, I2, T, st2, f2, q⟩ := h2
  subst e
  refine wpAny_newObj_type (newEnv_comp ?_)
  generalize hD : s2.heap.objs.size = D
  have hDn : H2 D = none := I2.hok.fresh (Nat.le_of_eq hD)
  obtain ⟨W, ⟨m0, w0⟩, turn⟩ := q D hDn
  -- the new list
  generalize hs3 : ({ s2 with heap := s2.heap.push { cls := .type "dict", data := .dict #[] } } : Shared) = s3
  have I3 : Inv X pins σ (upd H2 D (DctO X.w D 0 [])) s3 := by
    rw [← hs3]
    refine I2.laid (t' := s2.toks) (fun b o e => Heap.get?_push_of_some _ e) (Nat.le_of_eq hD) ?_
    rw [← hD]
    exact dct_ok (dct_new s2.heap X.w I2.big)
  have h3 : s3.heap = s2.heap.push { cls := .type "dict", data := .dict #[] } := by rw [← hs3]
  have sz : ∀ b ∈ fp, b < s2.heap.objs.size := fun b hb => by
    obtain ⟨o, e, _⟩ := T.obj _ _ st2 b hb
    exact Heap.lt_size e
  have f3 : ∀ b ∈ fp, FpOk X pins (upd H2 D (DctO X.w D 0 [])) b ∧ b < s3.heap.objs.size := fun b hb => by
    have hlt := sz b hb
    refine ⟨⟨?_, (f2 b hb).2⟩, by rw [h3, Heap.size_push]; exact Nat.lt_succ_of_lt hlt⟩
    rw [upd_ne (by rw [← hD]; exact Nat.ne_of_lt hlt)]
    exact (f2 b hb).1
  have st3 : tn 0 s3.heap := T.keep _ _ _ st2 fun b _ o e => by rw [h3]; exact Heap.get?_push_of_some _ e
  have I4 := block_start I3 ok hN f3
  have pg := hg s3 (upd H2 D (DctO X.w D 0 [])) s3.heap.objs.size (cellsFrom (s3.heap.objs.size + 1) scope.names (cloFrom X.env.cells scope.names [])) fp
  have pt := ht s3 (upd H2 D (DctO X.w D 0 [])) s3.heap.objs.size (cellsFrom (s3.heap.objs.size + 1) scope.names (cloFrom X.env.cells scope.names [])) fp
  have pk := hk s3 (upd H2 D (DctO X.w D 0 [])) s3.heap.objs.size (cellsFrom (s3.heap.objs.size + 1) scope.names (cloFrom X.env.cells scope.names [])) fp
  have pe := he s3 (upd H2 D (DctO X.w D 0 [])) s3.heap.objs.size (cellsFrom (s3.heap.objs.size + 1) scope.names (cloFrom X.env.cells scope.names [])) fp
  show codeAny _ _ (.compStart (.DictComp kx vx [⟨tg, iter, ifs, 0⟩] scope pos) 0 (.ref it) (.ref D) (compEnvC scope (cellsFrom (s3.heap.objs.size + 1) scope.names (cloFrom X.env.cells scope.names [])) s3.heap.objs.size X.env)) (compPost (model X.prog X.w) X.A X.xe use Qf (.ref D) s3.heap.objs.size) { s3 with heap := pushCells (s3.heap.push { cls := .type "dict", data := .dict #[] }) scope.names }
  have nfp : ∀ b ∈ fp, (upd H2 D (DctO X.w D 0 [])) b = none := fun b hb => (f3 b hb).1.1
  generalize hce : compEnvC scope (cellsFrom (s3.heap.objs.size + 1) scope.names (cloFrom X.env.cells scope.names [])) s3.heap.objs.size X.env = ce at I4 pg pt pk pe ⊢
  have cL : ce.locals = s3.heap.objs.size := by subst hce; rfl
  generalize hH3 : upd H2 D (DctO X.w D 0 []) = H3 at I3 I4 pg pt pk pe w0 nfp f3
  generalize hs4 : ({ s3 with heap := pushCells (s3.heap.push { cls := .type "dict", data := .dict #[] }) scope.names } : Shared) = s4 at I4 ⊢
  have st4 : tn 0 s4.heap := T.keep _ _ _ st3 fun b _ o e => by rw [← hs4]; exact pushCells_keeps _ _ _ _ (Heap.get?_push_of_some _ e)
  have stat : ∀ {σ' : St} {H' : Hp} {s' : Shared}, Inv (X.blk s3 H3 scope ce fp) [] σ' H' s' → (∀ b ∈ fp, H' b = none) → ∀ b ∈ fp, FpOk (X.blk s3 H3 scope ce fp) [] H' b := fun {σ' H' s'} I' hn b hb =>
    ⟨hn b hb, (I'.ok.exf b hb).1, I'.ok.exfs b hb, .inl hb, fun x c e => (I'.ok.exf b hb).2 x c e, fun p hp => absurd (show p ∈ ([] : List (Addr × Obj)) ++ [] from hp) (by simp)⟩
  have loop : codeAny (model X.prog X.w) X.A (.compLoop (.DictComp kx vx [⟨tg, iter, ifs, 0⟩] scope pos) 0 (.ref it) (.ref D) ce) (compPost (model X.prog X.w) X.A X.xe use Qf (.ref D) s3.heap.objs.size) s4 := by
    refine compLoop_anyD (fun n s' => ∃ i H', Inv (X.blk s3 H3 scope ce fp) [] (wipe σ (own.map (·.2))) H' s' ∧ tn i s'.heap ∧ (∀ b ∈ fp, H' b = none) ∧ W i n H') ?_ m0 ⟨0, H3, I4, st4, nfp, w0⟩
    rintro n s5 ⟨i, H5, I5, st5, n5, w5⟩
    rcases turn i n H5 w5 with ⟨stop, qq⟩ | ⟨go, Nx, hNx, step⟩
    · have td := T.done (X.blk s3 H3 scope ce fp) rfl rfl rfl hc i [] s5 _ H5 (fun _ _ => False) I5 (stat I5 n5) st5 stop
      refine thnF td fun r s6 ⟨hr, I6⟩ => ?_
      subst hr
      -- back in the def's context
      have I7 : Inv X pins σ H5 s6 := I3.call' (ch := fp) I6.os I6.base I6.hok I6.bare fun b hb => ⟨(f3 b hb).1.2.2.2.1, (f3 b hb).1.2.1, (f3 b hb).1.2.2.2.2.1, (f3 b hb).1.2.2.2.2.2⟩
      have nC : H5 s3.heap.objs.size = none := by
        have z : H5 ce.locals = none := I6.free
        rw [cL] at z
        exact z
      obtain ⟨m, hn, _⟩ := I6.loc
      have hn : s6.heap.Ns ce.locals m := hn
      rw [cL] at hn
      exact hRR D s3.heap.objs.size s6 m H5 I7 qq hn (I3.fpOk (Nat.le_refl _) nC)
    · have ti := T.item (X.blk s3 H3 scope ce fp) rfl rfl rfl hc i [] s5 _ H5 (fun _ _ => False) I5 (stat I5 n5) st5 go
      refine thnF ti fun r s6 ⟨u, hr, h6⟩ => ?_
      subst hr
      refine thnF h6 fun _ s7 ⟨x, H7, I7, r7, y7, st7, n7⟩ => ?_
      have I7' := I7.pinned (stat I7 n7) (T.obj _ _ st7)
      refine thnF (pg.run _ s7 _ H7 x u _ I7' r7 (step x H7 y7)) fun _ s8 ⟨σ8, H8, I8, hw8, q8⟩ => ?_
      refine thnF (pt.run _ s8 σ8 H8 _ I8 q8) fun b s9 ⟨H9, I9, q9⟩ => ?_
      -- the turn's end
      have fin : ∀ {s' : Shared} {H' : Hp}, Inv (X.blk s3 H3 scope ce fp) ([] ++ pinsAt fp s7.heap) σ8 H' s' → Nx H' → ∃ m, m < n ∧ ∃ i H', Inv (X.blk s3 H3 scope ce fp) [] (wipe σ (own.map (·.2))) H' s' ∧ tn i s'.heap ∧ (∀ b ∈ fp, H' b = none) ∧ W i m H' := fun {s' H'} I' nx => by
        obtain ⟨m', hm, w'⟩ := hNx H' nx
        have pin' : ∀ b ∈ fp, ∀ o, s7.heap.get? b = some o → s'.heap.get? b = some o ∧ H' b = none := fun b hb o e =>
          let z := I'.pin (b, o) (List.mem_append_right _ (List.mem_append_right _ (mem_pinsAt hb e)))
          ⟨z.1, z.2.1⟩
        have hl : (wipe σ (own.map (·.2))).length = σ8.length := by rw [← hw8, wipe_length]
        refine ⟨m', hm, i + 1, H', (I'.unpinned (pins := [])).weak hl (fun j v e => ?_), T.keep _ _ _ st7 fun b hb o e => (pin' b hb o e).1, fun b hb => ?_, w'⟩
        · rw [← hw8] at e
          exact (wipe_some e).1
        · obtain ⟨o, e, _⟩ := T.obj _ _ st7 b hb
          exact (pin' b hb o e).2
      cases b with
      | false =>
        simp only [Bool.false_eq_true, if_false] at q9 ⊢
        exact fin I9 q9
      | true =>
        simp only [if_true] at q9 ⊢
        refine thnF (pk.run _ s9 σ8 H9 _ I9 q9) fun z s10 ⟨yk, H10, I10, r10, q10⟩ => ?_
        refine thnF (pe.run _ s10 σ8 H10 _ I10 q10) fun z2 s11 ⟨yv, H11, I11, r11, b, ep, es, k, ek, hD11, hk11, hz11, nx⟩ => ?_
        subst ek
        exact dct_dset (X := X.blk s3 H3 scope ce fp) hu I11 hD11 hk11 hz11 r10 r11 fun ep' s12 I12 => fin I12 (nx ep')
  exact codeAny_compStart_dict loop (T.self X.A 0 _ _ _ st4 loop)
  ) only [↓qt_eq])
/-- as a value -/
theorem pe_dcd {kx vx tg iter : Expr} {ifs : List Expr} {scope : Scope} {own : List (Str × Nat)} {pos : Pos} {wi : TI} {g : TG} {tt : TT} {tk tv : TE} (hu : X.A.units + 9 < cLine) (hc : X.calm = true) (hN : X.N.Nodup) (hi : PI X tg iter wi) (ok : BlkOk X.N X.env.scope scope own)
    (hg : ∀ (s : Shared) (H : Hp) (C : Addr) (cl : List (Str × Addr)) (fp : List Addr), PG (X.blk s H scope (compEnvC scope cl C X.env) fp) tg g) (ht : ∀ (s : Shared) (H : Hp) (C : Addr) (cl : List (Str × Addr)) (fp : List Addr), PTs (X.blk s H scope (compEnvC scope cl C X.env) fp) ifs tt)
    (hk : ∀ (s : Shared) (H : Hp) (C : Addr) (cl : List (Str × Addr)) (fp : List Addr), PE (X.blk s H scope (compEnvC scope cl C X.env) fp) kx tk)
    (he : ∀ (s : Shared) (H : Hp) (C : Addr) (cl : List (Str × Addr)) (fp : List Addr), PE (X.blk s H scope (compEnvC scope cl C X.env) fp) vx tv) (hs : ∀ x, foldedSetIterable iter X.env x = pure x := by intro _; rfl) :
    PE X (.DictComp kx vx [⟨tg, iter, ifs, 0⟩] scope pos) (tDcd X.K X.w wi g tt tk tv (own.map (·.2))) := by
  refine ⟨fun pins s σ H Q I h => ?_⟩
  rw [arm_eval_DictComp]
  refine dcd_core hu hc hN I hi ok hg ht hk he hs h fun D C s' m H' I' q hn f => ⟨m, hn, fun h'' sb => ?_⟩
  obtain ⟨f0, f1, f2, f3, f4, f5⟩ := f
  exact ⟨.ref D, H', I'.turned (t' := s'.toks) (fun b o hb e => (sb.2 b hb).trans e) f0 f1 f3 f4 f5, rfl, q⟩
end
end U

end
section
/-! sorted(xs) of data that compare, sorted(d) of a dict with such keys. -/
namespace U
open PySem PySem.Spec PyProof.Rows L2 Evl
/-- data in order -/
noncomputable def srtD (xs : List PyData) : List PyData := xs.mergeSort (PySem.W.dataLe false id)
noncomputable def SrtOk (xs : List PyData) : Prop := PySem.W.AllAlike xs ∧ PySem.W.Sortable xs ∧ ∀ x ∈ xs, x.depth ≤ 60
noncomputable abbrev srtP (ps : List (V × PyData)) : List (V × PyData) := ps.mergeSort (PySem.W.dataLe false (·.2))
theorem srt_map (ps : List (V × PyData)) : (ps.mergeSort (PySem.W.dataLe false (·.2))).map (·.2) = srtD (ps.map (·.2)) := by
  unfold srtD
  exact List.map_mergeSort fun a _ b _ => rfl
theorem dpa_zip {K : Fg} {H : Hp} : ∀ {vs : List V} {xs : List PyData}, DpAll K H vs xs → ∃ ps : List (V × PyData), ps.map (·.1) = vs ∧ ps.map (·.2) = xs ∧ ∀ p ∈ ps, Dp K H p.1 p.2
  | _, _, .nil => ⟨[], rfl, rfl, fun _ h => nomatch h⟩
  | _, _, .cons (v := v) (d := x) a b => by
    obtain ⟨ps, h1, h2, h3⟩ := dpa_zip b
    refine ⟨(v, x) :: ps, by rw [List.map_cons, h1], by rw [List.map_cons, h2], fun p hp => ?_⟩
    rcases List.mem_cons.mp hp with rfl | hp
    · exact a
    · exact h3 p hp
theorem zip_dpa {K : Fg} {H : Hp} : ∀ {ps : List (V × PyData)}, (∀ p ∈ ps, Dp K H p.1 p.2) → DpAll K H (ps.map (·.1)) (ps.map (·.2))
  | [], _ => .nil
  | p :: ps, h => .cons (h p (List.mem_cons_self ..)) (zip_dpa fun q hq => h q (List.mem_cons_of_mem _ hq))
theorem vals_each : ∀ {ps : List (V × PyData)} {us : List Value}, Vals (ps.map (·.1)) us → PySem.W.EachIs (fun u p => RelV p.1 u) us ps
  | [], _, h => by cases h; exact .nil
  | p :: ps, _, h => by
    cases h with
    | cons a b => exact .cons a (vals_each b)
theorem each_vals : ∀ {ps : List (V × PyData)} {us : List Value}, PySem.W.EachIs (fun u p => RelV p.1 u) us ps → Vals (ps.map (·.1)) us
  | _, _, .nil => .nil
  | _, _, .cons a b => .cons a (each_vals b)
section
variable {X : Cx} {pins : List (Addr × Obj)} {σ : L2.St} {H : Hp} {s : Shared}
theorem each_reads (I : Inv X pins σ H s) : ∀ {ps : List (V × PyData)} {us : List Value}, (∀ p ∈ ps, Dp X.K H p.1 p.2) → PySem.W.EachIs (fun u p => RelV p.1 u) us ps → PySem.W.EachIs (fun u p => ∃ as, Reads s.heap u p.2 as) us ps
  | _, _, _, .nil => .nil
  | p :: ps, _, h, .cons a b => .cons (Dp.reads I _ _ _ (h p (List.mem_cons_self ..)) a) (each_reads I (fun q hq => h q (List.mem_cons_of_mem _ hq)) b)
/-- sorted(xs) -/
noncomputable def rSrtL (K : Fg) : List V → Hp → VK → Prop := fun vs H Q => ∃ a ps, vs = [.ref a] ∧ SqL K H a (ps.map (·.1)) ∧ (∀ p ∈ ps, Dp K H p.1 p.2) ∧ SrtOk (ps.map (·.2)) ∧ ∀ l, H l = none → Q (.ref l) (upd H l (.lst ((srtP ps).map (·.1))))
theorem room2 {x : PyData} {A : Around} (hu : A.units + 64 < cLine) (h : x.depth ≤ 60) : A.units + 2 + x.depth < cLine := by omega
theorem cr_srtL (hu : X.A.units + 64 < cLine) : CallR X (.builtin "sorted") (rSrtL X.K) := by
  intro pins s σ H vs us Q I r h
  obtain ⟨a, ps, rfl, hs, hp, ⟨ok1, ok2, ok3⟩, q⟩ := h
  obtain ⟨its, rv, hl, hz⟩ := I.list hs
  rw [Vals.ref1 r]
  have ev := vals_each rv
  have hL : ps.length ≤ sizeLine := by rw [List.length_map] at hz; exact hz
  refine PySem.W.sorted_data (enc := (·.2)) hl.isList ev (each_reads I hp ev) ok1 ok2 hL (fun p hp' => room2 hu (ok3 _ (List.mem_map.mpr ⟨p, hp', rfl⟩))) fun out ho eo => ?_
  obtain ⟨ep, he'⟩ := PyProof.Rows.sortedAll_at s.heap its out.toArray
  have hps : ∀ p ∈ ps.mergeSort (PySem.W.dataLe false (·.2)), Dp X.K H p.1 p.2 := fun p h => hp p (List.mem_mergeSort.mp h)
  have hlen : ((ps.mergeSort (PySem.W.dataLe false (·.2))).map (·.1)).length ≤ sizeLine := by rw [List.length_map, List.length_mergeSort]; exact hL
  refine ⟨.ref _, upd H (s.heap.objs.size + 1) (.lst ((ps.mergeSort (PySem.W.dataLe false (·.2))).map (·.1))), I.laid (t' := s.toks) (fun _ _ => PyProof.Rows.sortedAll_old) (Nat.le_succ _) ⟨hlen, out, ep, each_vals eo, he'⟩, rfl, q _ (I.hok.fresh (Nat.le_succ _))⟩
/-- sorted(d) -/
noncomputable def rSrtD (K : Fg) (w : World) : List V → Hp → VK → Prop := fun vs H Q => ∃ a ep es ps, vs = [.ref a] ∧ H a = some (DctO w a ep es) ∧ ps.map (·.1) = (es.map fun e => V.ref e.2.1) ∧ (∀ p ∈ ps, Dp K H p.1 p.2) ∧ SrtOk (ps.map (·.2)) ∧ ∀ l, H l = none → Q (.ref l) (upd H l (.lst ((srtP ps).map (·.1))))
theorem es_vals : ∀ {es : List Ent} {xs : List (NK × Addr × Value)}, Es es xs → Vals (es.map fun e => .ref e.2.1) (xs.map fun x => .ref x.2.1)
  | _, _, .nil => .nil
  | _, _, .cons r t => .cons rfl (es_vals t)
theorem cr_srtD (hc : X.calm = true) (hu : X.A.units + 64 < cLine) : CallR X (.builtin "sorted") (rSrtD X.K X.w) := by
  intro pins s σ H vs us Q I r h
  obtain ⟨d, ep, es, ps, rfl, hD, e1, hp, ⟨ok1, ok2, ok3⟩, q⟩ := h
  rw [Vals.ref1 r]
  obtain ⟨n1, n2, n3, o, ent, ks, ho, hx, hdt, he, hl⟩ := dct_at I hD
  have hsz : ent.size = ks.length := by rw [← Array.length_toList, hl, List.length_map]
  refine PySem.Calls.call_function_entry kind_sorted plain_sorted entry_sorted (args_sorted1 _) ?_
  unfold Builtin.«sorted»
  refine wpAny_bind (m := checkCount "sorted" 1 1 _) (wpAny_pure ?_)
  refine wpAny_bind (PySem.W.kdu_collect (A := X.A.in1) (kdl_raw n2 hx hdt) (I.ok.hd hc) ho (by rw [hsz, ← he.len]; exact n1) fun h' tk acc hk hacc => ?_)
  have el : acc.toList = ks.map fun x => .ref x.2.1 := by
    apply List.ext_getElem?
    intro j
    have hla : acc.toList.length = ks.length := by rw [Array.length_toList, hacc.1]; exact hsz
    rcases Nat.lt_or_ge j ks.length with hj | hj
    · have h1 : acc.toList[j]? = some acc.toList[j] := List.getElem?_eq_getElem (by omega)
      obtain ⟨en, hen, hv⟩ := hacc.2 j _ (by rw [← Array.getElem?_toList]; exact h1)
      rw [← Array.getElem?_toList, hl, List.getElem?_map, List.getElem?_eq_getElem hj] at hen
      rw [h1, hv, List.getElem?_map, List.getElem?_eq_getElem hj]
      cases hen
      rfl
    · rw [List.getElem?_eq_none (by omega), List.getElem?_eq_none (by rw [List.length_map]; omega)]
  have rv : Vals (ps.map (·.1)) acc.toList := by
    rw [e1, el]
    exact es_vals he
  have ev := vals_each rv
  have hL : ps.length ≤ sizeLine := by
    have z := congrArg List.length e1
    rw [List.length_map, List.length_map] at z
    omega
  have hla : acc.toList.length = ps.length := by rw [← rv.length, List.length_map]
  refine wpAny_bind (wpAny_newList ?_ (by rw [hla]; exact hL))
  have hoL : (h'.push { cls := .type "list", data := .seq acc.toList.toArray }).get? h'.objs.size = some (seqObj "list" acc.toList.toArray 0) := Heap.get?_push_size _ rfl
  have kp : ∀ b o, s.heap.get? b = some o → (h'.push { cls := .type "list", data := .seq acc.toList.toArray }).get? b = some o := fun b o e => Heap.get?_push_of_some _ (hk b o e)
  have I1 : Inv X pins σ H { s with heap := h'.push { cls := .type "list", data := .seq acc.toList.toArray }, toks := tk } := I.kept (t' := tk) kp
  have er : PySem.W.EachIs (fun u p => ∃ as, Reads (h'.push { cls := .type "list", data := .seq acc.toList.toArray }) u p.2 as ∧ h'.objs.size ∉ as) acc.toList ps := (each_reads I hp ev).mono fun u p ⟨as, r⟩ => ⟨as, PyProof.Rows.Reads.keeps kp r, fun z => by
    obtain ⟨o, e⟩ := PyProof.On.reads_mem_get r _ z
    exact absurd (Heap.lt_size (hk _ _ e)) (Nat.lt_irrefl _)⟩
  refine wpAny_bind (wpAny_holding (PySem.W.list_sort_data (A := X.A.in1) (enc := (·.2)) hoL ev er ok1 ok2 hL (fun p hp' => ?_) fun out ho' eo => ?_))
  · have := ok3 _ (List.mem_map.mpr ⟨p, hp', rfl⟩)
    have e : X.A.in1.units = X.A.units + 1 := rfl
    omega
  · obtain ⟨ep', he'⟩ := PyProof.Rows.sortedHeap_at (vs := acc.toList) (out := out.toArray) hoL
    have hps : ∀ p ∈ ps.mergeSort (PySem.W.dataLe false (·.2)), Dp X.K H p.1 p.2 := fun p h => hp p (List.mem_mergeSort.mp h)
    have hlen : ((ps.mergeSort (PySem.W.dataLe false (·.2))).map (·.1)).length ≤ sizeLine := by rw [List.length_map, List.length_mergeSort]; exact hL
    have I0 : Inv X pins σ H { s with heap := h', toks := tk } := I.kept (t' := tk) hk
    have kk : ∀ b o, h'.get? b = some o → (sortedHeap (h'.push { cls := .type "list", data := .seq acc.toList.toArray }) h'.objs.size acc.toList out.toArray).get? b = some o := fun b o e => by
      have hb := Heap.lt_size e
      rw [PyProof.Rows.sortedHeap_old (Nat.ne_of_lt hb) (by rw [Heap.size_push]; exact Nat.lt_succ_of_lt hb)]
      exact Heap.get?_push_of_some _ e
    refine wpAny_pure ⟨_, rfl, ?_⟩
    refine ⟨.ref h'.objs.size, upd H h'.objs.size (.lst ((ps.mergeSort (PySem.W.dataLe false (·.2))).map (·.1))), I0.laid (t' := tk) kk (Nat.le_refl _) ⟨hlen, out, ep', each_vals eo, he'⟩, rfl, q _ (I0.hok.fresh (Nat.le_refl _))⟩
end
end U

end
section
/-! x in a list or a tuple of data of any depth. -/
namespace U
open PySem PySem.Spec PyProof.Rows L2 Evl
theorem u9 {n : Nat} (h : n + 64 < cLine) : n + 9 < cLine := by omega
section
variable {X : Cx}
end
end U

end
section
/-! isinstance of a caught exception of an own class that has a dict. -/
namespace U
open PySem PyProof.Rows L2 Evl
end U

end
section
/-! Sets of nested tuples of whole numbers. -/
namespace U
open PySem PySem.Spec PyProof.Rows L2 Evl
noncomputable abbrev Pk := Addr × NK
mutual
/-- whole numbers alone, at any depth -/
noncomputable def NumK : NK → Bool
  | .num _ => true
  | .tup ks => NumKs ks
  | _ => false
noncomputable def NumKs : List NK → Bool
  | [] => true
  | k :: ks => NumK k && NumKs ks
end
noncomputable def NoCls (P : Program) (w : World) (n : Nat) (s : Shared) (v : Value) : Prop := ∀ (A : Around) (E : Value → Shared → Prop) (Q : Bool → Shared → Prop), Q false s → wpAny (model P w) A (ofAClassStatement n v) Q E s
noncomputable def ByVal (P : Program) (w : World) (n : Nat) (s : Shared) (v : Value) : Prop := ∀ (A : Around) (E : Value → Shared → Prop) (Q : Bool → Shared → Prop), Q true s → wpAny (model P w) A (hashByValue n v) Q E s
section
variable {P : Program} {w : World} {s : Shared}
theorem NoCls.pur {n : Nat} {v : Value} (e : ofAClassStatement n v = pure false) : NoCls P w n s v := fun A E Q q => by rw [e]; exact wpAny_pure q
theorem ByVal.pur {n : Nat} {v : Value} (e : hashByValue n v = pure true) : ByVal P w n s v := fun A E Q q => by rw [e]; exact wpAny_pure q
theorem NoCls.tup {n m : Nat} {a : Addr} {o : Obj} {vs : Array Value} (g : s.heap.get? a = some o) (c : o.cls = .type "tuple") (d : o.data = .seq vs m) (each : ∀ v ∈ vs.toList, NoCls P w n s v) : NoCls P w (n + 1) s (.ref a) := fun A E Q q => by
  have ty : s.TypeIs (.ref a) "tuple" := ⟨o, g, c⟩
  unfold ofAClassStatement
  refine wpAny_bind (wpAny_typeOf ty ?_)
  dsimp only
  simp only [show (("tuple" : String) == "tuple") = true from by decide, if_true, Bool.not_true, Bool.false_eq_true, if_false]
  first | skip | (refine wpAny_bind (wpAny_pure ?_); skip)
  try (refine wpAny_bind (wpAny_pure ?_); simp only [Bool.not_true, Bool.false_eq_true, if_false])
  show wpAny (model P w) A (seqItems? (.ref a) >>= _) Q E s
  refine wpAny_bind (wpAny_seqItems g d ?_)
  dsimp only
  refine wpAny_bind ?_
  show wpAny (model P w) A (forIn vs _ _) _ E s
  rw [← Array.forIn_toList]
  refine wpAny_forIn_list _ (fun rest r s' => r.1 = none ∧ s' = s ∧ ∀ v ∈ rest, NoCls P w n s v) _ ?_ ?_ _ _ ⟨rfl, rfl, each⟩
  · rintro v rest r _ ⟨hr, rfl, al⟩
    refine wpAny_bind (al v (.head _) A E _ ?_)
    simp only [Bool.false_eq_true, if_false]
    exact wpAny_pure ⟨rfl, rfl, fun u hu => al u (.tail _ hu)⟩
  · rintro ⟨r1, r2⟩ _ ⟨hr, rfl, _⟩
    simp only at hr
    subst hr
    exact wpAny_pure q
theorem ByVal.tup {n m : Nat} {a : Addr} {o : Obj} {vs : Array Value} (g : s.heap.get? a = some o) (c : o.cls = .type "tuple") (d : o.data = .seq vs m) (each : ∀ v ∈ vs.toList, ByVal P w n s v) : ByVal P w (n + 1) s (.ref a) := fun A E Q q => by
  have ty : s.TypeIs (.ref a) "tuple" := ⟨o, g, c⟩
  unfold hashByValue
  refine wpAny_bind (wpAny_specialOf ty F.slot_tuple_hash.lookup ?_)
  show wpAny (model P w) A (seqItems? (.ref a) >>= _) Q E s
  refine wpAny_bind (wpAny_seqItems g d ?_)
  refine wpAny_bind ?_
  show wpAny (model P w) A (forIn vs _ _) _ E s
  rw [← Array.forIn_toList]
  refine wpAny_forIn_list _ (fun rest r s' => r.1 = none ∧ s' = s ∧ ∀ v ∈ rest, ByVal P w n s v) _ ?_ ?_ _ _ ⟨rfl, rfl, each⟩
  · rintro v rest r _ ⟨hr, rfl, al⟩
    refine wpAny_bind (al v (.head _) A E _ ?_)
    simp only [Bool.not_true, Bool.false_eq_true, if_false]
    exact wpAny_pure ⟨rfl, rfl, fun u hu => al u (.tail _ hu)⟩
  · rintro ⟨r1, r2⟩ _ ⟨hr, rfl, _⟩
    simp only at hr
    subst hr
    exact wpAny_pure q
theorem cls_int (n : Nat) (i : Int) (t : Tok) : ofAClassStatement n (.int i t) = pure false := by cases n <;> rfl
theorem cls_bool (n : Nat) (b : Bool) : ofAClassStatement n (.bool b) = pure false := by cases n <;> rfl
theorem cls_none (n : Nat) : ofAClassStatement n .none = pure false := by cases n <;> rfl
theorem cls_text (n : Nat) (x : Str) (t : Tok) : ofAClassStatement n (.str x t) = pure false := by cases n <;> rfl
theorem val_int (n : Nat) (i : Int) (t : Tok) : hashByValue n (.int i t) = pure true := by cases n <;> rfl
theorem val_bool (n : Nat) (b : Bool) : hashByValue n (.bool b) = pure true := by cases n <;> rfl
mutual
theorem nk_cls : ∀ (k : NK) (v : Value) (n : Nat), NestedIs s.heap k v → k.depth ≤ n → NoCls P w n s v
  | .none, _, n, x, _ => by cases x; exact .pur (cls_none n)
  | .num i, _, n, x, _ => by
    cases x with
    | bool e => exact .pur (cls_bool n _)
    | int _ t => exact .pur (cls_int n _ t)
  | .text y, _, n, x, _ => by cases x; exact .pur (cls_text n _ _)
  | .tup ks, _, n, x, hn => by
    cases x with
    | tup hg hc hd hk =>
      simp only [NestedKey.depth] at hn
      cases n with
      | zero => omega
      | succ n => exact .tup hg hc hd (nks_cls ks _ n hk (by omega))
theorem nks_cls : ∀ (ks : List NK) (vs : List Value) (n : Nat), NestedAll s.heap ks vs → NestedKey.depthAll ks ≤ n → ∀ v ∈ vs, NoCls P w n s v
  | [], _, n, x, _, v, hv => by cases x; cases hv
  | k :: ks, _, n, x, hn, v, hv => by
    cases x with
    | cons x1 x2 =>
      simp only [NestedKey.depthAll] at hn
      rcases List.mem_cons.mp hv with e | hv
      · rw [e]; exact nk_cls k _ n x1 (by omega)
      · exact nks_cls ks _ n x2 (by omega) v hv
end
mutual
theorem nk_val : ∀ (k : NK) (v : Value) (n : Nat), NestedIs s.heap k v → k.depth ≤ n → NumK k = true → ByVal P w n s v
  | .none, _, n, _, _, m => by cases m
  | .num i, _, n, x, _, _ => by
    cases x with
    | bool e => exact .pur (val_bool n _)
    | int _ t => exact .pur (val_int n _ t)
  | .text y, _, n, _, _, m => by cases m
  | .tup ks, _, n, x, hn, m => by
    cases x with
    | tup hg hc hd hk =>
      simp only [NestedKey.depth] at hn
      cases n with
      | zero => omega
      | succ n => exact .tup hg hc hd (nks_val ks _ n hk (by omega) m)
theorem nks_val : ∀ (ks : List NK) (vs : List Value) (n : Nat), NestedAll s.heap ks vs → NestedKey.depthAll ks ≤ n → NumKs ks = true → ∀ v ∈ vs, ByVal P w n s v
  | [], _, n, x, _, _, v, hv => by cases x; cases hv
  | k :: ks, _, n, x, hn, m, v, hv => by
    have m : (NumK k && NumKs ks) = true := m
    obtain ⟨m1, m2⟩ := Bool.and_eq_true_iff.mp m
    cases x with
    | cons x1 x2 =>
      simp only [NestedKey.depthAll] at hn
      rcases List.mem_cons.mp hv with e | hv
      · rw [e]; exact nk_val k _ n x1 (by omega) m1
      · exact nks_val ks _ n x2 (by omega) m2 v hv
end
/-- at b stands the key k, of whole numbers -/
structure KyN (P : Program) (w : World) (h : Heap) (k : NK) (b : Addr) : Prop where
  is : (nestedKind P w).is h k b
  num : NumK k = true
theorem KyN.keep {h h' : Heap} {k : NK} {b : Addr} (x : KyN P w h k b) (st : ∀ c o, h.get? c = some o → h'.get? c = some o) : KyN P w h' k b := ⟨nestedKind_stays.stays (fun c o _ _ e _ => st c o e) x.is, x.num⟩
theorem KyN.same {h h' : Heap} {k : NK} {a b : Addr} {o : Obj} {es : Array (Int × Value)} {ep : Nat} {t : SetTable} (x : KyN P w h k b) (ho : h.get? a = some o) (hd : o.data = .set es ep t) (hs : Heap.SameBut a h h') : KyN P w h' k b :=
  ⟨nestedKind_stays.stays (fun c oc vs n e dc => (hs.2 c fun z => by subst z; rw [ho] at e; cases e; rw [hd] at dc; cases dc).trans e) x.is, x.num⟩
theorem seen_no {A : Around} {E : Value → Shared → Prop} {k : NK} {b : Addr} {Q : Bool → Shared → Prop} (hk : KyN P w s.heap k b) {ys : List Value} (hy : ∀ y ∈ ys, ∃ k' c, y = Value.ref c ∧ KyN P w s.heap k' c) (q : Q false s) : wpAny (model P w) A (searchCouldBeSeen (.ref b) ys) Q E s := qt_of (by simp (disch := with_unfolding_all
  unfold searchCouldBeSeen
  refine wpAny_bind (wpAny_forIn_list _ (fun rest r s' => r.1 = none ∧ s' = s ∧ ∀ y ∈ rest, ∃ k' c, y = Value.ref c ∧ KyN P w s.heap k' c) _ ?_ ?_ _ _ ⟨rfl, rfl, hy⟩)
  · rintro v rest r _ ⟨hr, rfl, al⟩
    obtain ⟨k', c, rfl, hc⟩ := al v (.head _)
    have more := fun u (hu : u ∈ rest) => al u (.tail _ hu)
    dsimp only
    by_cases hv : (b == c || (carriedByValue (.ref b) && carriedByValue (.ref c))) = true
    · exact wp_if_pos hv (wpAny_pure ⟨rfl, rfl, more⟩)
    · refine wp_if_neg hv (wpAny_bind ((nestedKind P w).quiet hk.is ?_))
      simp only [Bool.not_true, Bool.false_eq_true, if_false]
      refine wpAny_bind ((nestedKind P w).quiet hc.is ?_)
      simp only [Bool.not_true, Bool.false_eq_true, if_false]
      refine wpAny_bind (nk_cls _ _ 8 hk.is.1 hk.is.2 _ _ _ ?_)
      simp only [Bool.false_eq_true, if_false]
      refine wpAny_bind (nk_cls _ _ 8 hc.is.1 hc.is.2 _ _ _ ?_)
      simp only [Bool.false_eq_true, if_false]
      exact wpAny_pure ⟨rfl, rfl, more⟩
  · rintro ⟨r1, r2⟩ _ ⟨hr, rfl, _⟩
    simp only at hr
    subst hr
    exact wpAny_pure q
  ) only [↓qt_eq])
end
/-! ### the set -/
noncomputable abbrev nhs (w : World) (L : List Pk) : List Int := L.map fun p => NestedKey.hash w p.2
noncomputable abbrev nrw (w : World) (L : List Pk) : List (Int × Value) := L.map fun p => (NestedKey.hash w p.2, Value.ref p.1)
structure NS (P : Program) (w : World) (h : Heap) (a : Addr) (L : List Pk) (es : Array (Int × Value)) (ep : Nat) (t : SetTable) : Prop where
  ob : ∃ o, h.get? a = some o ∧ o.ExactSet ∧ o.data = .set es ep t
  row : es.toList = nrw w L
  tab : TabOk t (nhs w L)
  nd : (L.map (·.2)).Nodup
  key : ∀ p ∈ L, KyN P w h p.2 p.1
  pl : t.plain = true
  ld : w.params.followText "set-order" = true ∨ t.led = true
  rm : L.length * 5 < t.mask * 3
  few : L.length < 64
noncomputable abbrev wy (w : World) (t : SetTable) (k : NK) (c : Nat) : Nat := way t.mask (NestedKey.hash w k) c
noncomputable abbrev prb (w : World) (t : SetTable) (k : NK) (c : Nat) : SetTable.Probe := nth t.mask (runAt t.mask (SetTable.bits (NestedKey.hash w k) % (t.mask + 1)) (SetTable.bits (NestedKey.hash w k))) c
theorem prb_dm {w : World} {t : SetTable} {k : NK} (c : Nat) : (prb w t k c).dummy = none := qt_of (by simp (disch := with_unfolding_all
  have key : ∀ (n : Nat) (p : SetTable.Probe), p.dummy = none → (nth t.mask p n).dummy = none := fun n => by
    induction n with
    | zero => exact fun p h => h
    | succ n ih => exact fun p h => ih (adv t.mask p) (by unfold adv; split <;> exact h)
  exact key c _ rfl
  ) only [↓qt_eq])
theorem prb_add {w : World} {t : SetTable} {k : NK} (c q : Nat) : nth t.mask (prb w t k c) q = prb w t k (c + q) := (nth_add t.mask c _ q).symm
section
variable {P : Program} {w : World} {A : Around} {E : Value → Shared → Prop} {s : Shared} {a : Addr} {L : List Pk} {es : Array (Int × Value)} {ep : Nat} {t : SetTable}
theorem nrw_len {es : Array (Int × Value)} (r : es.toList = nrw w L) : es.size = L.length := by
  have e := congrArg List.length r
  rwa [Array.length_toList, List.length_map] at e
theorem nrw_at {es : Array (Int × Value)} (r : es.toList = nrw w L) {i : Nat} {p : Pk} (e : L[i]? = some p) : es[i]? = some (NestedKey.hash w p.2, Value.ref p.1) := by
  rw [← Array.getElem?_toList, r, List.getElem?_map, e]
  rfl
theorem NS.psz (R : NS P w s.heap a L es ep t) : t.place.size = L.length := by
  have e := R.tab.sz
  rwa [List.length_map] at e
theorem NS.fits (R : NS P w s.heap a L es ep t) : t.fits es.size = true := qt_of (by simp (disch := with_unfolding_all
  have e1 := R.psz
  have e2 := nrw_len R.row
  have e3 := R.rm
  unfold SetTable.fits SetTable.fill
  rw [R.tab.dm, Bool.and_eq_true, beq_iff_eq, decide_eq_true_eq]
  exact ⟨by omega, by show t.place.size + 0 ≤ t.mask; omega⟩
  ) only [↓qt_eq])
theorem NS.gw (R : NS P w s.heap a L es ep t) : ¬ t.gaveWay = true := by
  rw [show t.gaveWay = (t.mask % 2 == 0) from rfl, mask_odd R.tab.mok]
  decide
/-- the search, from the c-th step of the way on -/
theorem nseek (R : NS P w s.heap a L es ep t) {x : Addr} {k : NK} (hx : KyN P w s.heap k x) (hu : A.units + 8 < cLine) {K : Nat} (kf : K < 10 * SetTable.turns t.mask) (kn : wy w t k K ∉ t.place.toList) (kb : ∀ c, c < K → wy w t k c ∈ t.place.toList) {Q : SetFound → Shared → Prop}
    (yes : k ∈ L.map (·.2) → Q (.there none) s) (no : k ∉ L.map (·.2) → Q (.free (wy w t k K) false) s) :
    ∀ (f c : Nat) (st : Option SetTable.Probe), st.getD (t.probeStart (NestedKey.hash w k)) = prb w t k c → c ≤ K → K - c < f → (∀ (i : Nat) (p : Pk), L[i]? = some p → p.2 = k → ∃ d, c ≤ d ∧ d < K ∧ t.place.toList[i]? = some (wy w t k d)) →
      wpAny (model P w) A (setSearchFrom a (.ref x) (NestedKey.hash w k) true f st) Q E s
  | 0, _, _, _, _, z, _ => absurd z (Nat.not_lt_zero _)
  | f + 1, c, st, e0, cK, cf, left => by
    obtain ⟨o, ho, _, hd⟩ := R.ob
    rw [setSearchFrom_succ]
    refine wpAny_bind (wpAny_setState_of ho hd R.fits ?_)
    dsimp only
    refine wp_if_neg R.gw ?_
    try (refine wpAny_bind (wpAny_pure ?_); skip)
    have sh := fun q => prb_add (w := w) (t := t) (k := k) c q
    have sj : ∀ q, (nth t.mask (prb w t k c) q).j = wy w t k (c + q) := fun q => congrArg SetTable.Probe.j (sh q)
    have hash_at : ∀ {i : Nat} {p : Pk}, L[i]? = some p → (fun i => (es[i]?.map (·.1)).getD 0) i = NestedKey.hash w p.2 := fun {i p} e => by
      show ((es[i]?).map Prod.fst).getD 0 = _
      rw [nrw_at R.row e]
      rfl
    have slots := fun {i j : Nat} (e : t.place.toList[i]? = some j) => slot_live R.tab.ris e
    rcases go_spec t R.tab.ris R.tab.dm (fun i => (es[i]?.map (·.1)).getD 0) (NestedKey.hash w k) (10 * SetTable.turns t.mask) (K - c) _ (prb_dm c) (by omega) (fun q hq => by rw [sj]; exact kb _ (by omega)) (by rw [sj, show c + (K - c) = K from by omega]; exact kn) with ⟨q, i, hq, hi, _, none1, found⟩ | ⟨none1, found⟩
    · rw [sj, sh] at found
      rw [sj] at hi
      rw [show t.probe (fun i => (es[i]?.map (·.1)).getD 0) (NestedKey.hash w k) (st.getD (t.probeStart (NestedKey.hash w k))) = some (.candidate (wy w t k (c + q)) i (prb w t k (c + (q + 1)))) from by rw [e0]; exact found]
      dsimp only
      have il : i < L.length := by
        have := (List.getElem?_eq_some_iff.mp hi).1
        have := R.psz
        rw [Array.length_toList] at *
        omega
      obtain ⟨p, hp⟩ : ∃ p, L[i]? = some p := ⟨_, List.getElem?_eq_getElem il⟩
      have mp : p ∈ L := List.mem_of_getElem? hp
      have behind : wpAny (model P w) A (searchRest a (.ref x) (NestedKey.hash w k) true f es t (wy w t k (c + q)) i (prb w t k (c + (q + 1)))) Q E s := by
        unfold searchRest
        rw [nrw_at R.row hp]
        dsimp only
        refine wpAny_bind (wpAny_holding ((nestedKind P w).eqBool hu (R.key p mp).is hx.is ?_))
        refine wpAny_bind (wpAny_setState_of ho hd R.fits ?_)
        dsimp only
        by_cases same : p.2 = k
        · exact wp_if_pos (by simp [same]) (wpAny_pure (yes (List.mem_map.mpr ⟨p, mp, same⟩)))
        · refine wp_if_neg (by simp [same]) ?_
          try (refine wpAny_bind (wpAny_pure ?_); skip)
          rw [sameMem]
          dsimp only
          simp only [if_true, slots hi, nrw_at R.row hp]
          refine wpAny_bind (wpAny_isSame_ref_self (wpAny_bind (wpAny_pure ?_)))
          simp only [if_true]
          refine wp_if_neg (by simp [same]) (nseek R hx hu kf kn kb yes no f (c + (q + 1)) _ rfl (by omega) (by omega) fun j p' hj ek => ?_)
          obtain ⟨d, d1, d2, d3⟩ := left j p' hj ek
          refine ⟨d, ?_, d2, d3⟩
          rcases Nat.lt_trichotomy d (c + q) with z | z | z
          · exact (none1 (d - c) j (by omega) (by rw [sj, show c + (d - c) = d from by omega]; exact d3) ((hash_at hj).trans (by rw [ek]))).elim
          · have s1 := slots d3
            rw [z, slots hi] at s1
            injection s1 with s1
            rw [← s1, hp] at hj
            exact (same (by rw [Option.some.inj hj]; exact ek)).elim
          · omega
      by_cases led : t.led = true
      · refine wp_if_neg (by simp [led]) ?_
        try (refine wpAny_bind (wpAny_pure ?_); skip)
        exact behind
      · refine wp_if_pos (by simp [led]) (wpAny_bind (seen_no hx (fun y hy => ?_) ?_))
        · obtain ⟨e, he, rfl⟩ := List.mem_map.mp hy
          have m1 : e ∈ es ∧ e.1 = NestedKey.hash w k := by simpa using he
          have m2 : e ∈ es.toList := by simpa using m1.1
          rw [R.row] at m2
          obtain ⟨p', hp', rfl⟩ := List.mem_map.mp m2
          exact ⟨p'.2, p'.1, rfl, R.key p' hp'⟩
        · refine wp_if_neg (by decide) ?_
          try (refine wpAny_bind (wpAny_pure ?_); skip)
          exact behind
    · rw [sj, show c + (K - c) = K from by omega] at found
      rw [show t.probe (fun i => (es[i]?.map (·.1)).getD 0) (NestedKey.hash w k) (st.getD (t.probeStart (NestedKey.hash w k))) = some (.empty (wy w t k K) none) from by rw [e0]; exact found]
      dsimp only
      refine wpAny_pure (no fun hm => ?_)
      obtain ⟨p, mp, ek⟩ := List.mem_map.mp hm
      obtain ⟨j, hj⟩ := List.mem_iff_getElem?.mp mp
      obtain ⟨d, d1, d2, d3⟩ := left j p hj ek
      exact none1 (d - c) j (by omega) (by rw [sj, show c + (d - c) = d from by omega]; exact d3) ((hash_at hj).trans (by rw [ek]))
theorem nfind (R : NS P w s.heap a L es ep t) {x : Addr} {k : NK} (hx : KyN P w s.heap k x) (hu : A.units + 8 < cLine) {Q : SetFound → Shared → Prop} (yes : k ∈ L.map (·.2) → Q (.there none) s)
    (no : ∀ K, k ∉ L.map (·.2) → wy w t k K ∉ t.place.toList → (∀ c, c < K → wy w t k c ∈ t.place.toList) → Q (.free (wy w t k K) false) s) : wpAny (model P w) A (setSearch a (.ref x) (NestedKey.hash w k) true) Q E s := qt_of (by simp (disch := with_unfolding_all
  have room := R.rm
  obtain ⟨K, kf, kn, kb⟩ := R.tab.first (by rw [List.length_map]; omega) (NestedKey.hash w k)
  have few : 10 * SetTable.turns t.mask ≤ 1420 := by
    unfold SetTable.turns
    rcases R.tab.mok with e | e | e <;> omega
  unfold setSearch
  refine nseek R hx hu kf kn kb yes (fun n => no K n kn kb) 100000 0 none rfl (Nat.zero_le _) (by omega) fun i p hp ek => ?_
  have il := (List.getElem?_eq_some_iff.mp hp).1
  have sz := R.psz
  have hj := List.getElem?_eq_getElem (l := t.place.toList) (i := i) (by rw [Array.length_toList]; omega)
  obtain ⟨c, hc, e⟩ := R.tab.before kn (h := NestedKey.hash w k) (i := i) (by rw [List.getElem?_map, hp, ← ek]; rfl) hj
  exact ⟨c, Nat.zero_le _, hc, hj.trans (congrArg some e.symm)⟩
  ) only [↓qt_eq])
/-! ### laid anew, added to -/
theorem nrw_put (L : List Pk) (p : Nat) (x : Addr) (k : NK) : nrw w (L.take p ++ (x, k) :: L.drop p) = (nrw w L).take p ++ (NestedKey.hash w k, Value.ref x) :: (nrw w L).drop p := by
  simp only [nrw, List.map_append, List.map_cons, List.map_take, List.map_drop]
theorem nhs_put (L : List Pk) (p : Nat) (x : Addr) (k : NK) : nhs w (L.take p ++ (x, k) :: L.drop p) = (nhs w L).take p ++ NestedKey.hash w k :: (nhs w L).drop p := by
  simp only [nhs, List.map_append, List.map_cons, List.map_take, List.map_drop]
theorem fm_range {α : Type} (L : List α) : (List.range L.length).filterMap (fun i => L[i]?) = L := qt_of (by simp (disch := with_unfolding_all
  have key : ∀ n, n ≤ L.length → (List.range n).filterMap (fun i => L[i]?) = L.take n := fun n => by
    induction n with
    | zero => intro _; simp
    | succ n ih =>
      intro hn
      rw [List.range_succ, List.filterMap_append, ih (by omega), List.take_add_one, List.getElem?_eq_getElem (by omega)]
      simp [List.getElem?_eq_getElem (show n < L.length by omega)]
  rw [key _ (Nat.le_refl _), List.take_length]
  ) only [↓qt_eq])
theorem nrw_order (r : es.toList = nrw w L) {order : Array Nat} (hp : order.toList.Perm (List.range L.length)) : ∃ L2, (order.filterMap (es[·]?)).toList = nrw w L2 ∧ L2.Perm L ∧ nhs w L2 = order.toList.map fun i => (es.map (·.1)).getD i 0 := qt_of (by simp (disch := with_unfolding_all
  have key : ∀ l : List Nat, (∀ i ∈ l, i < L.length) → l.filterMap (fun i => es[i]?) = nrw w (l.filterMap fun i => L[i]?) ∧ nhs w (l.filterMap fun i => L[i]?) = l.map fun i => (es.map (·.1)).getD i 0 := fun l => by
    induction l with
    | nil => exact fun _ => ⟨rfl, rfl⟩
    | cons i l ih =>
      intro hl
      have hi := List.getElem?_eq_getElem (hl i (by simp))
      obtain ⟨e1, e2⟩ := ih fun j hj => hl j (by simp [hj])
      have e3 := nrw_at r hi
      rw [List.filterMap_cons_some e3, List.filterMap_cons_some hi]
      refine ⟨by rw [e1]; rfl, ?_⟩
      show NestedKey.hash w _ :: nhs w _ = _ :: _
      rw [e2]
      congr 1
      show NestedKey.hash w _ = (es.map (·.1)).getD i 0
      have e5 : (es.map (·.1))[i]? = some (NestedKey.hash w (L[i]'(hl i (by simp))).2) := by rw [Array.getElem?_map, e3]; rfl
      rw [Array.getD_eq_getD_getElem?, e5]
      rfl
  obtain ⟨e1, e2⟩ := key order.toList fun i hi => List.mem_range.mp (hp.mem_iff.mp hi)
  refine ⟨_, by rw [Array.toList_filterMap]; exact e1, ?_, e2⟩
  have := hp.filterMap (fun i => L[i]?)
  rwa [fm_range] at this
  ) only [↓qt_eq])
theorem nlay {o : Obj} (ho : s.heap.get? a = some o) (hex : o.ExactSet) (hd : o.data = .set es ep t) (row : es.toList = nrw w L) (psz : t.place.size = es.size) (dm : t.dummies = #[]) (fl : es.size ≤ t.mask) (nd : (L.map (·.2)).Nodup) (key : ∀ p ∈ L, KyN P w s.heap p.2 p.1) (pl : t.plain = true)
    (ld : w.params.followText "set-order" = true ∨ t.led = true) (few : L.length < 64) {wanted M : Nat} (hw : SetTable.sizeAbove wanted - 1 = M) (hM : MaskOk M) (hw2 : SetTable.sizeAbove wanted ≤ 128) (hn : L.length * 5 < M * 3) {Q : Unit → Shared → Prop}
    (q : ∀ h' L' es' ep' t', Heap.SameBut a s.heap h' → NS P w h' a L' es' ep' t' → L'.Perm L → Q () { s with heap := h' }) : wpAny (model P w) A (setRelay a wanted) Q E s := qt_of (by simp (disch := with_unfolding_all
  have sl := nrw_len row
  have fits : t.fits es.size = true := by
    unfold SetTable.fits SetTable.fill
    rw [dm, Bool.and_eq_true, beq_iff_eq, decide_eq_true_eq]
    exact ⟨psz, by show t.place.size + 0 ≤ t.mask; omega⟩
  obtain ⟨t', order, e, hp, T, em, el, ep', _⟩ := relaid_ok t (hs := es.map (·.1)) (wanted := wanted) hw hM (by rw [Array.size_map]; omega)
  rw [Array.size_map, sl] at hp
  obtain ⟨L2, r1, r2, r3⟩ := nrw_order row hp
  rw [← r3] at T
  have s2 : (order.filterMap (es[·]?)).size = es.size := by rw [nrw_len r1, r2.length_eq, sl]
  rw [setRelay_eq]
  refine wpAny_bind (wpAny_setState_of ho hd fits ?_)
  dsimp only
  refine wp_if_neg (by rw [sizeLine_eq]; omega) ?_
  try (refine wpAny_bind (wpAny_pure ?_); skip)
  rw [e]
  dsimp only
  refine wpAny_bind (wp_if_neg (by rw [s2]; simp) ?_)
  try (refine wpAny_bind (wpAny_pure ?_); skip)
  refine wpAny_pure (wpAny_storeSet_of ho hd ?_ (by rw [s2, sizeLine_eq]; omega))
  have sb : Heap.SameBut a s.heap (s.heap.update a (Obj.putSet (order.filterMap (es[·]?)) t')) := .update ..
  exact q _ L2 _ (ep + 1) t' sb ⟨⟨_, store_at ho hd, ⟨hex.1, hex.2.1, hex.2.2⟩, rfl⟩, r1, T, (r2.map (·.2)).nodup_iff.mpr nd, fun p m => (key p (r2.mem_iff.mp m)).same ho hd sb, by rw [ep']; exact pl, by rw [el]; exact ld, by rw [r2.length_eq, em]; exact hn, by rw [r2.length_eq]; exact few⟩ r2
  ) only [↓qt_eq])
theorem nadd (R : NS P w s.heap a L es ep t) {x : Addr} {k : NK} (hx : KyN P w s.heap k x) (hu : A.units + 8 < cLine) (few : L.length + 1 < 64) {Q : Bool → Shared → Prop}
    (q : ∀ b h' L' es' ep' t', Heap.SameBut a s.heap h' → NS P w h' a L' es' ep' t' → (k ∈ L.map (·.2) → L' = L) → (k ∉ L.map (·.2) → L'.Perm ((x, k) :: L)) → Q b { s with heap := h' }) : wpAny (model P w) A (setAddHashed a (.ref x) (NestedKey.hash w k)) Q E s := qt_of (by simp (disch := with_unfolding_all
  obtain ⟨o, ho, hex, hd⟩ := R.ob
  have sl := nrw_len R.row
  have room := R.rm
  unfold setAddHashed
  refine wpAny_holding ?_
  rw [show (100000 : Nat) = 99999 + 1 from rfl, setAddHashedIn_succ]
  refine wpAny_bind (wpAny_setState_of ho hd R.fits ?_)
  dsimp only
  refine wp_if_neg (by simp [byScan, Value.scannable]) ?_
  try (refine wpAny_bind (wpAny_pure ?_); skip)
  refine wpAny_bind (nfind R hx hu (fun m => ?_) fun K nm kn kb => ?_)
  · exact wpAny_pure (q false s.heap L es ep t (.refl a s.heap) R (fun _ => rfl) fun n => absurd m n)
  dsimp only
  refine wpAny_bind (wpAny_setState_of ho hd R.fits ?_)
  dsimp only
  obtain ⟨p1, p2, T1, p4, p5, p6, _, _, p9⟩ := R.tab.put kn kb
  have pl1 : (t.put (wy w t k K)).1.plain = true := by rw [p6]; exact R.pl
  have ld1 : w.params.followText "set-order" = true ∨ (t.put (wy w t k K)).1.led = true := by rw [p5]; exact R.ld
  generalize t.put (wy w t k K) = pt at p1 T1 p4 p9 pl1 ld1 ⊢
  obtain ⟨t1, p⟩ := pt
  dsimp only at p1 T1 p4 p9 pl1 ld1 ⊢
  subst p1
  have hv := nk_val (P := P) (w := w) _ _ 8 hx.is.1 hx.is.2 hx.num
  first
    | (refine wpAny_bind ?_; refine wp_if_pos pl1 ?_; refine hv _ _ _ ?_)
    | refine wp_if_pos pl1 (wpAny_bind (hv _ _ _ ?_))
  simp only [if_true]
  have r1 : (SetTable.insertAt es (SetTable.below t.place (wy w t k K)) (NestedKey.hash w k, Value.ref x)).toList = nrw w (L.take (SetTable.below t.place (wy w t k K)) ++ (x, k) :: L.drop (SetTable.below t.place (wy w t k K))) := by rw [SetTable.toList_insertAt, nrw_put, R.row]
  rw [← nhs_put L _ x k] at T1
  have pm := put_perm L (SetTable.below t.place (wy w t k K)) (x, k)
  generalize L.take (SetTable.below t.place (wy w t k K)) ++ (x, k) :: L.drop (SetTable.below t.place (wy w t k K)) = L1 at r1 T1 pm
  generalize SetTable.insertAt es (SetTable.below t.place (wy w t k K)) (NestedKey.hash w k, Value.ref x) = es1 at r1 ⊢
  have l1 : L1.length = L.length + 1 := pm.length_eq
  have z1 := nrw_len r1
  have nd1 : (L1.map (·.2)).Nodup := (pm.map (·.2)).nodup_iff.mpr (by rw [List.map_cons]; exact List.nodup_cons.mpr ⟨nm, R.nd⟩)
  refine wpAny_bind (wpAny_storeSet_of ho hd ?_ (by rw [sizeLine_eq]; omega))
  have sb : Heap.SameBut a s.heap (s.heap.update a (Obj.putSet es1 t1)) := .update ..
  have ho1 := store_at (es' := es1) (t' := t1) ho hd
  generalize s.heap.update a (Obj.putSet es1 t1) = h1 at sb ho1 ⊢
  have key1 : ∀ p ∈ L1, KyN P w h1 p.2 p.1 := fun p hp => by
    rcases List.mem_cons.mp (pm.mem_iff.mp hp) with rfl | hp
    · exact hx.same ho hd sb
    · exact (R.key p hp).same ho hd sb
  by_cases full : t1.tooFull = true
  · first
      | (refine wpAny_bind ?_; refine wp_if_pos (by simp [full]) ?_)
      | (refine wp_if_pos (by simp [full]) ?_; refine wpAny_bind ?_)
    have full' : (L.length + 1) * 5 ≥ t1.mask * 3 := by
      unfold SetTable.tooFull at full
      rwa [decide_eq_true_eq, p9, List.length_map] at full
    have sz1 : t1.place.size = es1.size := by
      have e := T1.sz
      rw [List.length_map] at e
      omega
    have two : (t.mask = 7 ∧ L.length = 4) ∨ (t.mask = 31 ∧ L.length = 18) := by
      rcases R.tab.mok with e | e | e <;> rw [p4, e] at full' <;> rw [e] at room
      · exact .inl ⟨e, by omega⟩
      · exact .inr ⟨e, by omega⟩
      · omega
    rw [sl]
    have go : ∀ M, SetTable.sizeAbove (SetTable.grown (L.length + 1)) - 1 = M → MaskOk M → SetTable.sizeAbove (SetTable.grown (L.length + 1)) ≤ 128 → (L.length + 1) * 5 < M * 3 → wpAny (model P w) A (setRelay a (SetTable.grown (L.length + 1))) (fun _ s' => wpAny (model P w) A (pure true) Q E s') E { s with heap := h1 } := fun M g1 g2 g3 g4 =>
      nlay (s := { s with heap := h1 }) ho1 ⟨hex.1, hex.2.1, hex.2.2⟩ rfl r1 sz1 T1.dm (by rw [p4]; rcases two with ⟨e, e2⟩ | ⟨e, e2⟩ <;> omega) nd1 key1 pl1 ld1 (by omega) g1 g2 g3 (by rw [l1]; exact g4) fun h2 L2 es2 ep2 t2 sb2 R2 pm2 => wpAny_pure (q true h2 L2 es2 ep2 t2 (sb.trans sb2) R2 (fun m => absurd m nm) fun _ => pm2.trans pm)
    rcases two with ⟨_, e⟩ | ⟨_, e⟩
    · exact go 31 (by rw [e, size_20]) (.inr (.inl rfl)) (by rw [e, size_20]; decide) (by omega)
    · exact go 127 (by rw [e, size_76]) (.inr (.inr rfl)) (by rw [e, size_76]; decide) (by omega)
  · first
      | refine wp_if_neg (by simp [full]) ?_
      | (refine wpAny_bind ?_; refine wp_if_neg (by simp [full]) ?_; refine wpAny_pure ?_)
    refine wpAny_pure (q true h1 L1 es1 (ep + 1) t1 sb ⟨⟨_, ho1, ⟨hex.1, hex.2.1, hex.2.2⟩, rfl⟩, r1, T1, nd1, key1, pl1, ld1, ?_, by omega⟩ (fun m => absurd m nm) fun _ => pm)
    unfold SetTable.tooFull at full
    rw [decide_eq_true_eq, p9, List.length_map] at full
    omega
  ) only [↓qt_eq])
end
end U

end
section
namespace U
open PySem PyProof.Rows L2 Evl
local macro_rules | `(tactic| walk_at "ev1a") => do
  let a ← ("ev_ixDisp ev_fst ev_snd ev_add ev_sub ev_mul ev_fdiv ev_mod ev_pow ev_lt ev_le ev_gt ev_ge ev_eqI ev_neI ev_neg ev_subB ev_isNo ev_noNo ev_not et_test et_B et_not ev_abs ev_max ev_min ev_intB ev_gcd ev_frac ev_fadd ev_sign ev_cmpF".splitOn " ").mapM fun (n : String) => `(tacticSeq| with_reducible apply $(Lean.mkIdent n.toName):ident)
  let b := a.toArray
  `(tactic| first $[| $b:tacticSeq]*)
local macro_rules | `(tactic| walk_at "ev1b") => do
  let a ← ("ev_like ev_tup ev_lst ea_cons eo_some ev_order".splitOn " ").mapM fun (n : String) => `(tacticSeq| with_reducible apply $(Lean.mkIdent n.toName):ident)
  let b := a.toArray
  `(tactic| first $[| $b:tacticSeq]*)
local macro_rules | `(tactic| walk_at "ev1") => `(tactic| first
  | exact ev_int | exact ev_bl | exact ev_str | exact ev_non | exact ev_var rfl | exact ea_nil | exact eo_none
  | walk_at "ev1a"
  | with_reducible apply ev_pull rfl
  | walk_at "ev1b"
  | exact ev_part rfl | exact ev_far rfl | exact ev_farPart rfl
  | (with_reducible show List.length _ ≤ 16000000; (simp; done)) | (with_reducible show (0 : Int) < _; decide) | (with_reducible show (_ : Int) < 1000000000000; decide) | (with_reducible show CPow _ _; (unfold CPow; decide)) | (with_reducible show CNz _ _; (unfold CNz; decide))
  | with_reducible apply sg_ret | with_reducible apply sg_asg | with_reducible apply sg_next)
local macro_rules | `(tactic| walk_at "ln") => `(tactic| first | walk_at "ev1" | with_reducible apply sg_seq)
section

/-! ### part -/
theorem fdiv_neg2 (a g : Int) : a.fdiv (-g) = (-a).fdiv g := by
  have h := Int.neg_fdiv_neg (-a) g
  rw [Int.neg_neg] at h
  exact h
section
variable {K : Fg} {cs : Cs} {W : WX} {G : Gam} {s s1 s2 s' : Bag} {ta tb te : TE} {x y : PyData} {E : St → XK}
end
section
variable {K : Fg} {cs : Cs}
-- slots of part: 0 above, 1 below, 2 divisor
-- slots of told01: 0 _law_above, 1 _law_below, 2 why
end

end
section

theorem fdiv_pos {c g : Int} (hg : 0 < g) (h : g ≤ c) : 0 < c.fdiv g := by
  rw [Int.fdiv_eq_ediv_of_nonneg _ (Int.le_of_lt hg)]
  have : 1 ≤ c / g := Int.le_ediv_of_mul_le hg (by omega)
  omega
theorem gI_le_right {a b : Int} (hb : b ≠ 0) : gI a b ≤ (b.natAbs : Int) := qt_of (by simp (disch := with_unfolding_all
  unfold gI gN
  have h1 : 0 < b.natAbs := Int.natAbs_pos.mpr hb
  have h2 := Nat.gcd_le_right (m := a.natAbs) (n := b.natAbs) h1
  have : max (Nat.gcd a.natAbs b.natAbs) 1 ≤ b.natAbs := Nat.max_le.mpr ⟨h2, h1⟩
  omega
  ) only [↓qt_eq])
theorem fracF_pos {a b : Int} (hb : b ≠ 0) : 0 < (fracF a b).2 := qt_of (by simp (disch := with_unfolding_all
  have hg := gI_pos a b
  have hl := gI_le_right (a := a) hb
  unfold fracF
  by_cases h : b < 0
  · show 0 < b.fdiv (if b < 0 then -gI a b else gI a b)
    rw [if_pos h, fdiv_neg2]
    exact fdiv_pos hg (by omega)
  · rw [if_neg h]
    exact fdiv_pos hg (by omega)
  ) only [↓qt_eq])
theorem addF_pos {p q : Fr} (hp : p.2 ≠ 0) (hq : q.2 ≠ 0) : 0 < (addF p q).2 := fracF_pos (Int.mul_ne_zero hp hq)
theorem partOf_pos (s : Bag) : 0 < (partOf s).2 := qt_of (by simp (disch := with_unfolding_all
  obtain ⟨y1, y2⟩ := pullV_range (pullS s 13) (n := 4) (by decide)
  have hm := menu_mem (l := [1, 1, 2, 3]) y1 y2
  refine fracF_pos ?_
  generalize menu _ _ = m at hm
  simp only [List.mem_cons, List.not_mem_nil, or_false] at hm
  omega
  ) only [↓qt_eq])
theorem farPartOf_pos (s : Bag) : 0 < (farPartOf s).2 := by
  refine fracF_pos ?_
  unfold absI
  split <;> omega
section
variable {K : Fg} {cs : Cs} {W : WX} {G : Gam} {s s1 s2 s' : Bag} {ta tb te : TE} {x y : PyData} {E : St → XK} {E' : XK} {p q : Fr}
-- slots of plus: 0 one, 1 other
-- slots of minus: 0 one, 1 other
-- slots of times: 0 one, 1 other
-- slots of over: 0 one, 1 other
-- slots of middle: 0 one, 1 other
-- slots of _law_sub: 0 _law_one, 1 _law_other
-- slots of _law_mul: 0 _law_one, 1 _law_other
-- slots of _law_div: 0 _law_one, 1 _law_other
-- slots of told03: 0 _law_one, 1 _law_other, 2 why
end

end
section

/-! ### fractions in lowest terms -/
theorem gI_dvd_left {a b : Int} (hb : b ≠ 0) : ∃ c, a = gI a b * c := qt_of (by simp (disch := with_unfolding_all
  have e : gI a b = (Nat.gcd a.natAbs b.natAbs : Nat) := by
    unfold gI gN
    have : 0 < Nat.gcd a.natAbs b.natAbs := Nat.gcd_pos_of_pos_right _ (Int.natAbs_pos.mpr hb)
    have : max (Nat.gcd a.natAbs b.natAbs) 1 = Nat.gcd a.natAbs b.natAbs := Nat.max_eq_left this
    omega
  rw [e]
  exact Int.ofNat_dvd_left.mpr (Nat.gcd_dvd_left _ _)
  ) only [↓qt_eq])
theorem gI_dvd_right {a b : Int} (hb : b ≠ 0) : ∃ c, b = gI a b * c := qt_of (by simp (disch := with_unfolding_all
  have e : gI a b = (Nat.gcd a.natAbs b.natAbs : Nat) := by
    unfold gI gN
    have : 0 < Nat.gcd a.natAbs b.natAbs := Nat.gcd_pos_of_pos_right _ (Int.natAbs_pos.mpr hb)
    have : max (Nat.gcd a.natAbs b.natAbs) 1 = Nat.gcd a.natAbs b.natAbs := Nat.max_eq_left this
    omega
  rw [e]
  exact Int.ofNat_dvd_left.mpr (Nat.gcd_dvd_right _ _)
  ) only [↓qt_eq])
/-- fracF by its factor -/
theorem fracF_spec {a b : Int} (hb : b ≠ 0) : ∃ k : Int, k ≠ 0 ∧ a = k * (fracF a b).1 ∧ b = k * (fracF a b).2 ∧ k.natAbs = Nat.gcd a.natAbs b.natAbs := qt_of (by simp (disch := with_unfolding_all
  have hg := gI_pos a b
  have hn : gI a b = (Nat.gcd a.natAbs b.natAbs : Nat) := by
    unfold gI gN
    have : 0 < Nat.gcd a.natAbs b.natAbs := Nat.gcd_pos_of_pos_right _ (Int.natAbs_pos.mpr hb)
    have : max (Nat.gcd a.natAbs b.natAbs) 1 = Nat.gcd a.natAbs b.natAbs := Nat.max_eq_left this
    omega
  obtain ⟨c, hc⟩ := gI_dvd_left (a := a) hb
  obtain ⟨d, hd⟩ := gI_dvd_right (a := a) hb
  have fd : ∀ (g x : Int), g ≠ 0 → (g * x).fdiv g = x := fun g x h => Int.mul_fdiv_cancel_left x h
  unfold fracF
  by_cases h : b < 0
  · rw [if_pos h]
    refine ⟨-gI a b, by omega, ?_, ?_, by rw [Int.natAbs_neg, hn, Int.natAbs_natCast]⟩
    · have : a = -gI a b * -c := by rw [Int.neg_mul_neg]; exact hc
      show a = -gI a b * a.fdiv (-gI a b)
      have e := fd (-gI a b) (-c) (by omega)
      rw [← this] at e
      rw [e]; exact this
    · have : b = -gI a b * -d := by rw [Int.neg_mul_neg]; exact hd
      show b = -gI a b * b.fdiv (-gI a b)
      have e := fd (-gI a b) (-d) (by omega)
      rw [← this] at e
      rw [e]; exact this
  · rw [if_neg h]
    refine ⟨gI a b, by omega, ?_, ?_, by rw [hn, Int.natAbs_natCast]⟩
    · show a = gI a b * a.fdiv (gI a b)
      have e := fd (gI a b) c (by omega)
      rw [← hc] at e
      rw [e]; exact hc
    · show b = gI a b * b.fdiv (gI a b)
      have e := fd (gI a b) d (by omega)
      rw [← hd] at e
      rw [e]; exact hd
  ) only [↓qt_eq])
theorem fracF_low {a b : Int} (hb : b ≠ 0) : gI (fracF a b).1 (fracF a b).2 = 1 := qt_of (by simp (disch := with_unfolding_all
  obtain ⟨k, hk, h1, h2, h3⟩ := fracF_spec (a := a) hb
  have hpos : 0 < k.natAbs := Int.natAbs_pos.mpr hk
  generalize (fracF a b).1 = x at *
  generalize (fracF a b).2 = y at *
  have : Nat.gcd (k * x).natAbs (k * y).natAbs = k.natAbs * Nat.gcd x.natAbs y.natAbs := by
    rw [Int.natAbs_mul, Int.natAbs_mul, Nat.gcd_mul_left]
  rw [← h1, ← h2, ← h3] at this
  have g1 : Nat.gcd x.natAbs y.natAbs = 1 := Nat.eq_of_mul_eq_mul_left hpos (by rw [← this, Nat.mul_one])
  unfold gI gN
  rw [g1]
  rfl
  ) only [↓qt_eq])
theorem fracF_isPart {a b : Int} (hb : b ≠ 0) : isPart (fr (fracF a b)) = true := by
  show (decide (0 < (fracF a b).2) && decide (gI (fracF a b).1 (fracF a b).2 = 1)) = true
  rw [decide_eq_true (fracF_pos hb), decide_eq_true (fracF_low hb)]
  rfl
theorem partOf_isPart (s : Bag) : isPart (fr (partOf s)) = true := qt_of (by simp (disch := with_unfolding_all
  obtain ⟨y1, y2⟩ := pullV_range (pullS s 13) (n := 4) (by decide)
  have hm := menu_mem (l := [1, 1, 2, 3]) y1 y2
  refine fracF_isPart ?_
  generalize menu _ _ = m at hm
  simp only [List.mem_cons, List.not_mem_nil, or_false] at hm
  omega
  ) only [↓qt_eq])
/-! ### spots -/
noncomputable def spotOf (n : Nat) (s : Bag) : List PyData := drawn (fun s => fr (partOf s)) partS n s
noncomputable def spotS (n : Nat) (s : Bag) : Bag := itB partS n s
noncomputable def P_spot : Bag → List PyData → PyData → Bag → Prop := fun s ds r s' => ∃ n : Nat, ds = [.int n] ∧ n ≤ 1000 ∧ r = .tuple (spotOf n s) ∧ s' = spotS n s
section
variable {K : Fg} {cs : Cs} {W : WX} {G : Gam} {s s1 s2 s' : Bag} {ta tb te : TE} {x y : PyData} {E : XK}
-- slots of is_spot: 0 thing, 1 room, 2 one
noncomputable def t__law_spot (K : Fg) : TS := (tRet (tCB (rTupQ K) (tCons (tLc (iRng1 (tCons (tVar 1) tNil)) (gName 2) tYes (tCall (spB K P_part) [] E0 (tCons (tVar 0) tNil)) [2]) tNil)))
-- slots of _law_spot: 0 _law_bag_here, 1 _law_rank, 2 _law_at
theorem ln__law_spot : ∀ s ds r s', P_spot s ds r s' → ds.length + 1 = 2 := fun s ds r s' h => by obtain ⟨n, rfl, _⟩ := h; rfl
theorem rd__law_spot {s ds r s'} (h : P_spot s ds r s') (ok : s.ok) : SG K (t__law_spot K) (.bag :: frame 2 ds) s (.rt r s') := qt_of (by simp (disch := with_unfolding_all
  obtain ⟨n, rfl, hn, rfl, rfl⟩ := h
  have e := ev_lcDraw (K := K) (te := tCall (spB K P_part) [] E0 (tCons (tVar 0) tNil)) (G := .bag :: frame 2 [.int n]) (src_rng1 (ta := tCons (tVar 1) tNil) (s := s) (ea_cons (ev_var rfl) ea_nil) ⟨by omega, by omega⟩) (g := gName 2) (vs := [2]) (fun s => fr (partOf s)) partS (un_at rfl) (by rw [rngD_len]; omega)
    (fun x s hx => ⟨_, tgt_name, ev_part rfl⟩)
  rw [rngD_len, Int.toNat_natCast] at e
  exact sg_ret (ev_tupL e)
  ) only [↓qt_eq])
end

end
end U
end
section
namespace U
open PySem PyProof.Rows L2 Evl
/-! ### fractions as rational numbers -/
noncomputable def val (p : Fr) : Rat := (p.1 : Rat) / (p.2 : Rat)
structure Gd (n : Nat) (p : Fr) : Prop where
  sz : Sz n p
  pos : 0 < p.2
  low : gI p.1 p.2 = 1
theorem Gd.mono {n m : Nat} {p : Fr} (h : Gd n p) (l : n ≤ m) : Gd m p := ⟨h.sz.mono l, h.pos, h.low⟩
theorem Gd.ne {n : Nat} {p : Fr} (h : Gd n p) : p.2 ≠ 0 := Int.ne_of_gt h.pos
theorem qne {a : Int} (h : a ≠ 0) : (a : Rat) ≠ 0 := fun e => h (by exact_mod_cast e)
theorem qpos {a : Int} (h : 0 < a) : 0 < (a : Rat) := Rat.intCast_pos.mpr h
theorem Gd.qpos {n : Nat} {p : Fr} (h : Gd n p) : 0 < (p.2 : Rat) := U.qpos h.pos
theorem Gd.qne {n : Nat} {p : Fr} (h : Gd n p) : (p.2 : Rat) ≠ 0 := U.qne h.ne
theorem Gd.add {n m : Nat} {p q : Fr} (hp : Gd n p) (hq : Gd m q) : Gd (n + m + 1) (addF p q) := ⟨Sz.add hp.sz hq.sz, addF_pos hp.ne hq.ne, fracF_low (Int.mul_ne_zero hp.ne hq.ne)⟩
theorem partOf_gd (s : Bag) : Gd 10 (partOf s) := qt_of (by simp (disch := with_unfolding_all
  refine ⟨partOf_sz s, partOf_pos s, ?_⟩
  have h := partOf_isPart s
  have h : (decide (0 < (partOf s).2) && decide (gI (partOf s).1 (partOf s).2 = 1)) = true := h
  exact of_decide_eq_true (Bool.and_eq_true_iff.mp h).2
  ) only [↓qt_eq])
theorem farPartOf_gd (s : Bag) : Gd 63 (farPartOf s) := by
  refine ⟨farPartOf_sz s, farPartOf_pos s, fracF_low ?_⟩
  unfold absI
  split <;> omega
/-! ### signs -/
theorem tri (x : Rat) : x < 0 ∨ x = 0 ∨ 0 < x := by grind
noncomputable def sgnQ (x : Rat) : Int := if 0 < x then 1 else if x < 0 then -1 else 0
theorem sgn_eq (a : Int) : sgn a = if 0 < a then 1 else if a < 0 then -1 else 0 := by
  unfold sgn
  by_cases h1 : 0 < a <;> by_cases h2 : a < 0 <;> simp [h1, h2] <;> omega
theorem sgn_int (a : Int) : sgn a = sgnQ (a : Rat) := qt_of (by simp (disch := with_unfolding_all
  rw [sgn_eq]
  unfold sgnQ
  have e1 : (0 : Rat) < (a : Rat) ↔ 0 < a := Rat.intCast_pos
  have e2 : (a : Rat) < 0 ↔ a < 0 := by
    have := Rat.intCast_lt_intCast (a := a) (b := 0)
    simpa using this
  simp only [e1, e2]
  ) only [↓qt_eq])
theorem sgnQ_mul {k x : Rat} (hk : 0 < k) : sgnQ (k * x) = sgnQ x := qt_of (by simp (disch := with_unfolding_all
  unfold sgnQ
  have e1 : 0 < k * x ↔ 0 < x := by
    constructor
    · intro h
      rcases tri x with z | z | z
      · have := Rat.mul_pos hk (show 0 < -x by grind)
        grind
      · rw [z, Rat.mul_zero] at h; exact absurd h (by decide)
      · exact z
    · exact fun h => Rat.mul_pos hk h
  have e2 : k * x < 0 ↔ x < 0 := by
    constructor
    · intro h
      rcases tri x with z | z | z
      · exact z
      · rw [z, Rat.mul_zero] at h; exact absurd h (by decide)
      · have := Rat.mul_pos hk z
        grind
    · intro h
      have := Rat.mul_pos hk (show 0 < -x by grind)
      grind
  simp only [e1, e2]
  ) only [↓qt_eq])
theorem sgnQ_zero : sgnQ 0 = 0 := by decide
theorem ord_sgn (p q : Fr) : ordF p q = sgn (p.1 * q.2 - q.1 * p.2) := by
  unfold ordF sgn
  generalize p.1 * q.2 - q.1 * p.2 = g
  by_cases h1 : 0 < g <;> by_cases h2 : g < 0 <;> simp [h1, h2, b2i]
theorem ord_val {n m : Nat} {p q : Fr} (hp : Gd n p) (hq : Gd m q) : ordF p q = sgnQ (val p - val q) := qt_of (by simp (disch := with_unfolding_all
  rw [ord_sgn, sgn_int, Rat.intCast_sub, Rat.intCast_mul, Rat.intCast_mul]
  have e : (p.1 : Rat) * q.2 - q.1 * p.2 = ((p.2 : Rat) * q.2) * (val p - val q) := by
    have := hp.qne
    have := hq.qne
    unfold val
    grind
  rw [e, sgnQ_mul (Rat.mul_pos hp.qpos hq.qpos)]
  ) only [↓qt_eq])
end U

end
section
namespace U
open PySem PyProof.Rows L2 Evl
local macro_rules | `(tactic| walk_at "ev1a") => do
  let a ← ("ev_ixDisp ev_fst ev_snd ev_add ev_sub ev_mul ev_fdiv ev_mod ev_pow ev_lt ev_le ev_gt ev_ge ev_eqI ev_neI ev_neg ev_subB ev_isNo ev_noNo ev_not et_test et_B et_not ev_abs ev_max ev_min ev_intB ev_gcd ev_frac ev_fadd ev_sign ev_cmpF".splitOn " ").mapM fun (n : String) => `(tacticSeq| with_reducible apply $(Lean.mkIdent n.toName):ident)
  let b := a.toArray
  `(tactic| first $[| $b:tacticSeq]*)
local macro_rules | `(tactic| walk_at "ev1b") => do
  let a ← ("ev_like ev_tup ev_lst ea_cons eo_some ev_order".splitOn " ").mapM fun (n : String) => `(tacticSeq| with_reducible apply $(Lean.mkIdent n.toName):ident)
  let b := a.toArray
  `(tactic| first $[| $b:tacticSeq]*)
local macro_rules | `(tactic| walk_at "ev1") => `(tactic| first
  | exact ev_int | exact ev_bl | exact ev_str | exact ev_non | exact ev_var rfl | exact ea_nil | exact eo_none
  | walk_at "ev1a"
  | with_reducible apply ev_pull rfl
  | walk_at "ev1b"
  | exact ev_part rfl | exact ev_far rfl | exact ev_farPart rfl
  | (with_reducible show List.length _ ≤ 16000000; (simp; done)) | (with_reducible show (0 : Int) < _; decide) | (with_reducible show (_ : Int) < 1000000000000; decide) | (with_reducible show CPow _ _; (unfold CPow; decide)) | (with_reducible show CNz _ _; (unfold CNz; decide))
  | with_reducible apply sg_ret | with_reducible apply sg_asg | with_reducible apply sg_next)
local macro_rules | `(tactic| walk_at "ln") => `(tactic| first | walk_at "ev1" | with_reducible apply sg_seq)
section

/-! ### rows of fractions -/
noncomputable abbrev frs (ps : List Fr) : PyData := .tuple (ps.map fr)
noncomputable def Gds (n : Nat) (ps : List Fr) : Prop := ∀ p ∈ ps, Gd n p
theorem Gds.mono {n m : Nat} {ps : List Fr} (h : Gds n ps) (l : n ≤ m) : Gds m ps := fun p hp => (h p hp).mono l
section
variable {K : Fg} {cs : Cs} {W : WX} {G : Gam} {s s1 s2 s3 s' : Bag} {ta tb tc te : TE} {x y : PyData} {E : XK}
/-! step_from, across, side_of -/
-- slots of step_from: 0 one, 1 other, 2 first, 3 second
-- slots of across: 0 one, 1 other
-- slots of side_of: 0 start, 1 end, 2 spot
/-! ### the law's own -/
-- slots of _law_hom: 0 _law_spot_here
-- slots of _law_det: 0 _law_one, 1 _law_two, 2 _law_three, 3 _law_first, 4 _law_second
-- slots of _law_turn: 0 _law_one, 1 _law_two, 2 _law_three
-- slots of _law_along: 0 _law_one, 1 _law_two, 2 _law_share, 3 _law_steps, 4 _law_at
end

end
section

theorem eqv_fr (p q : Fr) : PyData.eqv (fr p) (fr q) = decide (p = q) := qt_of (by simp (disch := with_unfolding_all
  show (p.1 == q.1 && (p.2 == q.2 && true)) = _
  rw [Bool.and_true]
  by_cases h : p = q
  · subst h; simp
  · rw [decide_eq_false h]
    cases h1 : (p.1 == q.1) with
    | false => rfl
    | true =>
      cases h2 : (p.2 == q.2) with
      | false => rfl
      | true => exact absurd (Prod.ext (eq_of_beq h1) (eq_of_beq h2)) h
  ) only [↓qt_eq])
section
variable {K : Fg} {cs : Cs} {W : WX} {G : Gam} {s s1 s2 s3 s4 s' : Bag} {ta tb tc td te : TE} {x y : PyData} {E : XK} {E2 : St → XK}
-- slots of gone: 0 spot, 1 step, 2 many, 3 first, 4 second
/-! crossing -/
-- slots of crossing: 0 start, 1 end, 2 other_start, 3 other_end, 4 step, 5 other_step, 6 span, 7 many
-- slots of told09: 0 _law_one, 1 _law_two, 2 _law_three, 3 _law_four, 4 why
/-! the law's own -/
-- slots of _law_mid: 0 _law_one, 1 _law_two, 2 _law_at
-- slots of _law_lowest: 0 _law_one, 1 _law_number
theorem sgnQ_iff (x : Rat) : sgnQ x = 0 ↔ x = 0 := qt_of (by simp (disch := with_unfolding_all
  unfold sgnQ
  rcases tri x with z | z | z
  · rw [if_neg (by grind), if_pos z]
    constructor
    · intro h; cases h
    · intro h; grind
  · rw [z]; simp
  · rw [if_pos z]
    constructor
    · intro h; cases h
    · intro h; grind
  ) only [↓qt_eq])
-- slots of _law_right: 0 _law_found, 1 _law_one, 2 _law_two, 3 _law_three, 4 _law_four, 5 _law_first, 6 _law_second
end

end
section

/-! ### lists or tuples -/
noncomputable def itemsOf : PyData → Option (List PyData)
  | .list xs => some xs
  | .tuple xs => some xs
  | _ => none
theorem items_cases {x : PyData} {xs : List PyData} (h : itemsOf x = some xs) : x = .list xs ∨ x = .tuple xs := by
  cases x <;> first | cases h | skip
  · exact .inl rfl
  · exact .inr rfl
section
variable {K : Fg} {cs : Cs} {gs : Gs} {W : WX} {G : Gam} {s s1 s2 s3 s' : Bag} {ta tb tc te : TE} {x y : PyData} {E : XK} {xs : List PyData}
/-! ### maps -/
-- slots of map_of: 0 rows, 1 row, 2 one
end

end
section

theorem cutD_to (xs : List PyData) (k : Nat) : cutD xs none (some (k : Int)) = xs.take k := qt_of (by simp (disch := with_unfolding_all
  unfold cutD
  rw [HT.sIx_none, HT.sIx_nat, List.drop_zero, Nat.sub_zero]
  by_cases h : k ≤ xs.length
  · rw [Nat.min_eq_left h]
  · rw [Nat.min_eq_right (by omega), List.take_length, List.take_of_length_le (by omega)]
  ) only [↓qt_eq])
section
variable {K : Fg} {cs : Cs} {gs : Gs} {W : WX} {G : Gam} {s s1 s2 s3 s' : Bag} {ta tb tc te : TE} {x y : PyData} {E : XK} {xs : List PyData}
-- slots of still: 0 room
-- slots of straightened: 0 way, 1 row
/-! ### drawn maps -/
-- slots of _law_whole_part: 0 _law_bag_here
-- slots of _law_entry: 0 _law_bag_here
noncomputable def drawFr (F : Bag → Fr) (N : Bag → Bag) (n : Nat) (s : Bag) : List Fr := (List.range n).map fun i => F (itB N i s)
theorem drawn_fr (F : Bag → Fr) (N : Bag → Bag) (n : Nat) (s : Bag) : drawn (fun s => fr (F s)) N n s = (drawFr F N n s).map fr := by
  unfold drawn drawFr
  rw [List.map_map]
  rfl
theorem drawFr_gd {k : Nat} {F : Bag → Fr} {N : Bag → Bag} (h : ∀ s, Gd k (F s)) (n : Nat) (s : Bag) : Gds k (drawFr F N n s) := fun p hp => by
  unfold drawFr at hp
  obtain ⟨i, _, rfl⟩ := List.mem_map.mp hp
  exact h _
theorem drawFr_len (F : Bag → Fr) (N : Bag → Bag) (n : Nat) (s : Bag) : (drawFr F N n s).length = n := by simp [drawFr]
theorem itB_ok {N : Bag → Bag} (h : ∀ {s : Bag}, s.ok → (N s).ok) {s : Bag} (hs : s.ok) : ∀ n, (itB N n s).ok
  | 0 => hs
  | n + 1 => h (itB_ok h hs n)
-- slots of _law_map: 0 _law_bag_here, 1 _law_start, 2 _law_goal, 3 _law_row, 4 _law_at
-- slots of told15: 0 _law_rows, 1 why
end

end
end U
end
section
namespace U
open PySem PyProof.Rows L2 Evl
section
variable {K : Fg} {cs : Cs} {gs : Gs} {W : WX} {G GI G1 : Gam} {s s1 s2 s3 s' : Bag} {ta tb tc te : TE} {x y : PyData} {E : XK} {xs : List PyData}
end
end U


end
section
namespace U.N
open PySem PyProof.Rows L2 Evl
section
variable {K : Fg} {cs : Cs} {W : WX} {G G' G1 G2 : Gam} {ta tb tc te : TE} {t u : TT} {φ : PyData → Prop} {ε : Xw → Prop} {ψ : Bool → Prop} {α : List PyData → Prop} {ι : List PyData → Prop} {χ : Own → Prop} {ω : Option Int → Prop}
variable {Wd : Addr → Prop} {B : Bt} {ad : Nat → Addr} {H0 H H1 H2 : Hp} {σ : St}
/-! ### items -/
/-- an item of a list or a tuple -/
theorem ew_ix (h : EW K cs W ta G (fun x => ∃ xs, itemsOf x = some xs ∧ EW K cs W tb G (fun y => ∃ j, y = .int j ∧ ∃ z, atI xs j = some z ∧ φ z) ε) ε) : EW K cs W (tOp (rIx K) ta tb) G φ ε :=
  ew_op (ew_mono h fun x ⟨xs, e, h⟩ => ew_mono h fun y ⟨j, e2, z, hz, p⟩ => fun Wd B ad H0 H σ v w S d1 d2 Q q => by
    subst e2
    cases d2
    rcases items_cases e with rfl | rfl
    · cases d1 with
      | lst g t =>
        obtain ⟨v, g1, g2⟩ := dpa_atI t hz
        exact .inl ⟨_, _, j, v, rfl, rfl, ex_l less_ex g, g1, q _ p _ H S Xb.refl g2⟩
    · cases d1 with
      | tup g t =>
        obtain ⟨v, g1, g2⟩ := dpa_atI t hz
        exact .inr (.inl ⟨_, _, j, v, rfl, rfl, ex_t less_ex g, g1, q _ p _ H S Xb.refl g2⟩))
/-- an item of a list of one's own -/
theorem ew_ixO {xs : List PyData} {i : Nat} (hi : G[i]? = some (.ow (ol xs))) (h : EW K cs W tb G (fun y => ∃ j, y = .int j ∧ ∃ z, atI xs j = some z ∧ φ z) ε) : EW K cs W (tOp (rIx K) (tVar i) tb) G φ ε := fun Wd B ad H0 H σ S Q q x => by
  obtain ⟨o, g1, rfl, _⟩ := S.at_ i _ hi
  refine ⟨_, g1, h Wd B ad H0 H σ S _ (fun y ⟨j, e, z, hz, p⟩ w H2 S2 e2 d2 => ?_) x⟩
  subst e
  cases d2
  obtain ⟨_, _, _, vs, g3, g4⟩ := S2.at_ i _ hi
  have g3 : H2 (ad i) = some (.lst vs) := g3
  have g4 : DpAll K _ vs xs := g4
  obtain ⟨v, g5, g6⟩ := dpa_atI g4 hz
  exact .inl ⟨_, _, j, v, rfl, rfl, sq_of g3, g5, q _ p _ H2 S2 e2 g6⟩
/-! ### tests -/
theorem tw_test (h : EW K cs W te G (fun x => ∃ b, x = .bool b ∧ ψ b) ε) : TW K cs W (tTest te) G ψ ε := fun Wd B ad H0 H σ S Q q x => h Wd B ad H0 H σ S _ (fun y ⟨b, e, p⟩ v H1 S1 e1 d1 => by
  subst e
  cases d1
  exact ⟨b, rfl, q b p H1 S1 e1⟩) x
theorem tw_B (h : EW K cs W te G (fun x => ∃ b, x = .bool b ∧ ψ b) ε) : TW K cs W (tB te) G ψ ε := tw_test h
theorem tw_yes (h : ψ true) : TW K cs W tYes G ψ ε := fun Wd B ad H0 H σ S Q q x => q true h H S Xb.refl
theorem tw_not (h : TW K cs W t G (fun b => ψ (!b)) ε) : TW K cs W (tNot t) G ψ ε := fun Wd B ad H0 H σ S Q q x => h Wd B ad H0 H σ S _ (fun b p => q (!b) p) x
theorem tw_and (h : TW K cs W t G (fun b => Cnd b (TW K cs W u G ψ ε) (ψ false)) ε) : TW K cs W (tAnd t u) G ψ ε := fun Wd B ad H0 H σ S Q q x => h Wd B ad H0 H σ S _ (fun b p H1 S1 e1 => by
  cases b with
  | true => exact iteT (p.1 rfl Wd B ad H0 H1 σ S1 _ (fun b p H2 S2 e2 => q b p H2 S2 (e1.trans e2)) (x.go e1))
  | false => exact iteF (q _ (p.2 rfl) H1 S1 e1)) x
theorem tw_or (h : TW K cs W t G (fun b => Cnd b (ψ true) (TW K cs W u G ψ ε)) ε) : TW K cs W (tOr t u) G ψ ε := fun Wd B ad H0 H σ S Q q x => h Wd B ad H0 H σ S _ (fun b p H1 S1 e1 => by
  cases b with
  | false => exact iteF (p.2 rfl Wd B ad H0 H1 σ S1 _ (fun b p H2 S2 e2 => q b p H2 S2 (e1.trans e2)) (x.go e1))
  | true => exact iteT (q _ (p.1 rfl) H1 S1 e1)) x
/-! ### promises -/
inductive Rs where
  | ok (x : PyData)
  | fl (c : Own)
  | er (e : Xw)
noncomputable abbrev Pr := List PyData → (Rs → Prop) → Prop
noncomputable def okRs (H : Hp) (K : Fg) (Wd : Addr → Prop) (Q : VK) (A : Rs → Prop) : Prop :=
  (∀ x, A (.ok x) → ∀ v H', Ex H H' → Dp K (less H' Wd) v x → Q v H') ∧
  (∀ c, A (.fl c) → ∀ a vs H', Ex H H' → H a = none → H' a = some (c.obj a vs) → DpAll K (less H' fun b => Wd b ∨ b = a) vs c.flat → Q (.ref a) H')
/-- a def that never raises -/
noncomputable def spW0 (K : Fg) (P : Pr) : Sp := fun vs H Q _ => ∃ (Wd : Addr → Prop) (ds : List PyData) (A : Rs → Prop), (∀ a, Wd a → ∃ o, H a = some o) ∧ DpAll K (less H Wd) vs ds ∧ P ds A ∧ okRs H K Wd Q A
/-- a def that draws, the bag its first argument -/
noncomputable def spWB (K : Fg) (P : Pr) : Sp := fun vs H Q _ => ∃ (Wd : Addr → Prop) (b c : Addr) (us : List V) (ds : List PyData) (A : Rs → Prop), (∀ a, Wd a → ∃ o, H a = some o) ∧ vs = .ref b :: us ∧ BagOk H (bgB b c) ∧
  DpAll K (less H fun a => Wd a ∨ InB (bgB b c) a) us ds ∧ P ds A ∧
  (∀ x, A (.ok x) → ∀ v H', Xb (bgB b c) H H' → BagOk H' (bgB b c) → Dp K (less H' fun a => Wd a ∨ InB (bgB b c) a) v x → Q v H') ∧
  (∀ l, A (.fl l) → ∀ a vs H', Xb (bgB b c) H H' → BagOk H' (bgB b c) → H a = none → H' a = some (l.obj a vs) → DpAll K (less H' fun b' => (Wd b' ∨ InB (bgB b c) b') ∨ b' = a) vs l.flat → Q (.ref a) H')
/-- what is wanted of a call's answer -/
noncomputable def rE (φ : PyData → Prop) (ε : Xw → Prop) : Rs → Prop
  | .ok x => φ x
  | .fl c => ∃ xs, c = ol xs ∧ φ (.list xs)
  | .er e => ε e
noncomputable def rF (χ : Own → Prop) (ε : Xw → Prop) : Rs → Prop
  | .ok _ => False
  | .fl c => χ c
  | .er e => ε e
theorem fl_upd {a : Addr} {o : HO} (h : H a = some o) : upd (less H fun b => b = a) a o = H := by
  funext b
  by_cases e : b = a
  · rw [e, upd_same, h]
  · rw [upd_ne e]; exact less_no (Z := fun b => b = a) e
theorem less_less {Z Z' : Addr → Prop} : less (less H Z) Z' = less H fun b => Z b ∨ Z' b := qt_of (by simp (disch := with_unfolding_all
  funext b
  by_cases z' : Z' b
  · rw [less_yes z', less_yes (.inr z')]
  · rw [less_no z']
    by_cases z : Z b
    · rw [less_yes z, less_yes (.inl z)]
    · rw [less_no z, less_no (fun h => h.elim z z')]
  ) only [↓qt_eq])
/-- the answer of a call, a new thing: what stood before stands without it -/
theorem fl_go {a : Addr} {o : HO} (S : Sta K Wd B ad H0 H σ G) (e : Xb B H H2) (b : BagOk H2 B) (t : ∀ p ∈ B.T, TabZ H2 (fun b => Zs Wd B ad G b ∨ b = a) p) (hn : H a = none) (ho : H2 a = some o) : Sta K Wd B ad H0 (less H2 fun b => b = a) σ G ∧ Xb B H (less H2 fun b => b = a) ∧ (less H2 fun b => b = a) a = none ∧ (less (less H2 fun b => b = a) (Zs Wd B ad G)) = less H2 (fun b => Zs Wd B ad G b ∨ b = a) := qt_of (by simp (disch := with_unfolding_all
  have x : Xb B H (less H2 fun b => b = a) := fun p u h n => less_of (fun z => by rw [z, hn] at h; cases h) (e p u h n)
  have nb : ¬ InB B a := (S.fresh hn).2.1
  refine ⟨S.drawn x (b.xb fun p z => less_no fun e => nb (e ▸ z)) fun p hp => (t p hp).mono (by
    rw [less_less]
    exact less_sub fun b z => z.elim .inr .inl) (less_no fun z => nb (z ▸ InB.tab hp)), x, less_yes rfl, ?_⟩
  rw [less_less]
  exact congrArg (less H2) (funext fun b => propext Or.comm)
  ) only [↓qt_eq])
theorem ew_callP {P : List PyData → PyData → Prop} {ta : TA} {dvs : List V} {des : List PyData} {E : XK} (hd : ∀ H, DpAll K H dvs des) (h : AW K cs W ta G (fun ds => ∃ r, P (ds ++ des) r ∧ φ r) ε) : EW K cs W (tCall (spP K P) dvs E ta) G φ ε := fun Wd B ad H0 H σ S Q q x =>
  h Wd B ad H0 H σ S _ (fun ds ⟨r, hp, p⟩ vs H1 S1 e1 d1 => ⟨Zs Wd B ad G, ds ++ des, r, S1.there, dpa_app d1 (hd _), hp, fun v H' e d => q r p v H' (S1.ext e) (e1.trans (.of e)) d⟩) x
theorem bag_zl {b c : Addr} (hb : B.bag = some (b, c)) (H : Hp) : (less H fun a => (Wd a ∨ (∃ i c, G[i]? = some (En.ow c) ∧ a = ad i) ∨ ∃ p ∈ B.T, a = p.1) ∨ InB (bgB b c) a) = less H (Zs Wd B ad G) := congrArg (less H) (funext fun a => propext (by
  have e : InB B a ↔ (U.InB (some (b, c)) a ∨ ∃ p ∈ B.T, a = p.1) := by rw [← hb]; exact Iff.rfl
  have e2 : InB (bgB b c) a ↔ U.InB (some (b, c)) a := ⟨fun z => z.elim id fun ⟨p, hp, _⟩ => (by cases hp), .inl⟩
  show _ ↔ Wd a ∨ _ ∨ InB B a
  rw [e, e2]
  constructor
  · rintro ((z | z | z) | z)
    · exact .inl z
    · exact .inr (.inl z)
    · exact .inr (.inr (.inr z))
    · exact .inr (.inr (.inl z))
  · rintro (z | z | z | z)
    · exact .inl (.inl z)
    · exact .inl (.inr (.inl z))
    · exact .inr z
    · exact .inl (.inr (.inr z))))
theorem wd_bag {b c : Addr} (S : Sta K Wd B ad H0 H σ G) (a : Addr) (z : Wd a ∨ (∃ i c, G[i]? = some (En.ow c) ∧ a = ad i) ∨ ∃ p ∈ B.T, a = p.1) : ∃ o, H a = some o := S.there a (by
  rcases z with z | z | z
  · exact .inl z
  · exact .inr (.inl z)
  · exact .inr (.inr (.inr z)))
theorem bagok_cut {b c : Addr} (hb : B.bag = some (b, c)) (k : BagOk H B) : BagOk H (bgB b c) := ⟨by show ∃ s : Bag, s.ok ∧ BagAt H (some (b, c)) s; rw [← hb]; exact k.1, fun p hp => by cases hp⟩
theorem ew_callB {P : Bag → List PyData → PyData → Bag → Prop} {tr : TA} {i : Nat} {E : XK} (hi : G[i]? = some .bag) (h : AW K cs W tr G (fun ds => ∀ s : Bag, s.ok → ∃ r s', P s ds r s' ∧ s'.ok ∧ φ r) ε) : EW K cs W (tCall (spB K P) [] E (tCons (tVar i) tr)) G φ ε := fun Wd B ad H0 H σ S Q q x => by
  obtain ⟨o, g1, b, c, eb, rfl⟩ := S.at_ i _ hi
  refine ⟨_, g1, h Wd _ ad H0 H σ S _ (fun ds hp vs H1 S1 e1 d1 => ?_) x⟩
  obtain ⟨⟨s, ok, hb⟩, _⟩ := S1.bag
  obtain ⟨r, s', hp, ok', p⟩ := hp s ok
  have zl : ∀ H : Hp, (less H fun a => (Wd a ∨ (∃ i c, G[i]? = some (En.ow c) ∧ a = ad i) ∨ ∃ p ∈ B.T, a = p.1) ∨ U.InB (some (b, c)) a) = less H (Zs Wd B ad G) := fun H => by
    rw [← bag_zl eb]
    exact congrArg (less H) (funext fun a => propext ⟨fun z => z.elim .inl fun z => .inr (.inl z), fun z => z.elim .inl fun z => .inr (z.elim id fun ⟨p, hp, _⟩ => (by cases hp))⟩)
  refine ⟨fun a => Wd a ∨ (∃ i c, G[i]? = some (En.ow c) ∧ a = ad i) ∨ ∃ p ∈ B.T, a = p.1, b, c, vs, s, ds, r, s', fun a z => wd_bag (b := b) (c := c) S1 a z, ?_, by rw [← eb]; exact hb, ?_, hp, fun v H' e hb d => ?_⟩
  · rw [List.append_nil]
  · rw [zl]; exact d1
  · rw [zl] at d
    obtain ⟨t1, t2, t3⟩ := S1.tabB eb (fun a o h n => e a o h fun z => n (.inl z)) ⟨⟨s', ok', hb⟩, fun p hp => by cases hp⟩
    exact q r p v H' (S1.drawn t1 t2 t3) (e1.trans t1) d
section
variable {P : Pr} {ta : TA} {dvs : List V} {des : List PyData} {E : XK}
theorem ew_call0 (hd : ∀ H, DpAll K H dvs des) (h : AW K cs W ta G (fun ds => P (ds ++ des) (rE φ fun _ => False)) ε) : EW K cs W (tCall (spW0 K P) dvs E ta) G φ ε := fun Wd B ad H0 H σ S Q q x =>
  h Wd B ad H0 H σ S _ (fun ds hp vs H1 S1 e1 d1 => ⟨Zs Wd B ad G, ds ++ des, _, S1.there, dpa_app d1 (hd _), hp, fun y p v H' e d => q y p v H' (S1.ext e) (e1.trans (.of e)) d, fun c p a us H' e hn ho d => by
    obtain ⟨xs, rfl, p⟩ := p
    have S2 := S1.ext e
    refine q _ p _ H' S2 (e1.trans (.of e)) (.lst (sq_of (less_of (S1.fresh hn).2.2 ho)) (dpa_mono (less_sub fun b z => .inl z) d))⟩) x
theorem ef_call0 (hd : ∀ H, DpAll K H dvs des) (h : AW K cs W ta G (fun ds => P (ds ++ des) (rF χ fun _ => False)) ε) : EF K cs W (tCall (spW0 K P) dvs E ta) G χ ε := fun Wd B ad H0 H σ S Q q x =>
  h Wd B ad H0 H σ S _ (fun ds hp vs H1 S1 e1 d1 => ⟨Zs Wd B ad G, ds ++ des, _, S1.there, dpa_app d1 (hd _), hp, fun y p => p.elim, fun c p a us H' e hn ho d => by
    obtain ⟨S2, e2, hn2, hl⟩ := fl_go S1 (.of e) (S1.bag.ext e) (fun p hp => (S1.tabN hn p hp).ex e) hn ho
    have k := q c p a us _ S2 (e1.trans e2) hn2 (by rw [hl]; exact d)
    rw [fl_upd ho] at k
    exact k⟩) x
theorem ew_callWB {i : Nat} {tr : TA} (hi : G[i]? = some .bag) (h : AW K cs W tr G (fun ds => P ds (rE φ fun _ => False)) ε) : EW K cs W (tCall (spWB K P) [] E (tCons (tVar i) tr)) G φ ε := fun Wd B ad H0 H σ S Q q x => by
  obtain ⟨o, g1, b, c, eb, rfl⟩ := S.at_ i _ hi
  refine ⟨_, g1, h Wd _ ad H0 H σ S _ (fun ds hp vs H1 S1 e1 d1 => ?_) x⟩
  refine ⟨fun a => Wd a ∨ (∃ i c, G[i]? = some (En.ow c) ∧ a = ad i) ∨ ∃ p ∈ B.T, a = p.1, b, c, vs, ds, _, fun a z => wd_bag (b := b) (c := c) S1 a z, by rw [List.append_nil], bagok_cut eb S1.bag, by rw [bag_zl eb]; exact d1, hp, fun y p v H' e hb d => ?_, fun l p a us H' e hb hn ho d => ?_⟩
  · rw [bag_zl eb] at d
    obtain ⟨t1, t2, t3⟩ := S1.tabB eb e hb
    exact q y p v H' (S1.drawn t1 t2 t3) (e1.trans t1) d
  · obtain ⟨xs, rfl, p⟩ := p
    obtain ⟨t1, t2, t3⟩ := S1.tabB eb e hb
    refine q _ p _ H' (S1.drawn t1 t2 t3) (e1.trans t1) (.lst (sq_of (less_of (S1.fresh hn).2.2 ho)) (dpa_mono ?_ d))
    rw [← bag_zl eb]
    exact less_sub fun b z => .inl z
end
/-! ### built-ins -/
theorem ew_cb {r : List V → Hp → VK → Prop} {ta : TA} (h : AW K cs W ta G (fun xs => ∀ Wd B ad H0 H σ vs, Sta K Wd B ad H0 H σ G → DpAll K (less H (Zs Wd B ad G)) vs xs → ∀ Q : VK, (∀ z, φ z → ∀ v H2, Sta K Wd B ad H0 H2 σ G → Xb B H H2 → Dp K (less H2 (Zs Wd B ad G)) v z → Q v H2) → r vs H Q) ε) : EW K cs W (tCB r ta) G φ ε := fun Wd B ad H0 H σ S Q q x =>
  h Wd B ad H0 H σ S _ (fun xs p vs H1 S1 e1 d1 => p Wd B ad H0 H1 σ vs S1 d1 Q fun z p v H2 S2 e2 d2 => q z p v H2 S2 (e1.trans e2) d2) x
theorem ef_cb {r : List V → Hp → VK → Prop} {ta : TA} (h : AW K cs W ta G (fun xs => ∀ Wd B ad H0 H σ vs, Sta K Wd B ad H0 H σ G → DpAll K (less H (Zs Wd B ad G)) vs xs → ∀ Q : VK, (∀ c, χ c → ∀ a vs H2, Sta K Wd B ad H0 H2 σ G → Xb B H H2 → H2 a = none → DpAll K (less H2 (Zs Wd B ad G)) vs c.flat → Q (.ref a) (upd H2 a (c.obj a vs))) → r vs H Q) ε) : EF K cs W (tCB r ta) G χ ε := fun Wd B ad H0 H σ S Q q x =>
  h Wd B ad H0 H σ S _ (fun xs p vs H1 S1 e1 d1 => p Wd B ad H0 H1 σ vs S1 d1 Q fun c p a us H2 S2 e2 hn d2 => q c p a us H2 S2 (e1.trans e2) hn d2) x
theorem ew_intB {ta : TA} (h : AW K cs W ta G (fun xs => ∃ i, xs = [.bool i] ∧ φ (.int (if i then 1 else 0))) ε) : EW K cs W (tCB rInt1 ta) G φ ε := ew_cb (aw_mono h fun xs ⟨i, e, p⟩ Wd B ad H0 H σ vs S d Q q => by
  subst e
  obtain ⟨v, rfl, d1⟩ := dp1 d
  cases d1
  exact .inr ⟨i, rfl, q _ p _ H S Xb.refl (.int _)⟩)
theorem ew_len {ta : TA} (h : AW K cs W ta G (fun xs => ∃ x ys, xs = [x] ∧ itemsOf x = some ys ∧ φ (.int ys.length)) ε) : EW K cs W (tCB (rLenQ K) ta) G φ ε := ew_cb (aw_mono h fun xs ⟨x, ys, e, hx, p⟩ Wd B ad H0 H σ vs S d Q q => by
  subst e
  obtain ⟨v, rfl, d1⟩ := dp1 d
  rcases items_cases hx with rfl | rfl
  · cases d1 with
    | lst g t => exact ⟨_, _, rfl, .inl (ex_l less_ex g), by rw [dpa_len t]; exact q _ p _ H S Xb.refl (.int _)⟩
  · cases d1 with
    | tup g t => exact ⟨_, _, rfl, .inr (ex_t less_ex g), by rw [dpa_len t]; exact q _ p _ H S Xb.refl (.int _)⟩)
theorem ew_lenO {xs : List PyData} {i : Nat} (hi : G[i]? = some (.ow (ol xs))) (p : φ (.int xs.length)) : EW K cs W (tCB (rLenQ K) (tCons (tVar i) tNil)) G φ ε := fun Wd B ad H0 H σ S Q q x => by
  obtain ⟨o, g1, rfl, vs, g3, g4⟩ := S.at_ i _ hi
  have g3 : H (ad i) = some (.lst vs) := g3
  have g4 : DpAll K _ vs xs := g4
  exact ⟨_, g1, _, _, rfl, .inl (sq_of g3), by rw [dpa_len g4]; exact q _ p _ H S Xb.refl (.int _)⟩
theorem ef_list {ta : TA} (h : AW K cs W ta G (fun xs => ∃ x ys, xs = [x] ∧ itemsOf x = some ys ∧ χ (ol ys)) ε) : EF K cs W (tCB (rListQ K) ta) G χ ε := ef_cb (aw_mono h fun xs ⟨x, ys, e, hx, p⟩ Wd B ad H0 H σ vs S d Q q => by
  subst e
  obtain ⟨v, rfl, d1⟩ := dp1 d
  rcases items_cases hx with rfl | rfl
  · cases d1 with
    | lst g t => exact ⟨_, _, rfl, .inl (ex_l less_ex g), fun l hl => q _ p l _ H S Xb.refl hl t⟩
  · cases d1 with
    | tup g t => exact ⟨_, _, rfl, .inr (ex_t less_ex g), fun l hl => q _ p l _ H S Xb.refl hl t⟩)
theorem ew_list {ta : TA} (h : AW K cs W ta G (fun xs => ∃ x ys, xs = [x] ∧ itemsOf x = some ys ∧ φ (.list ys)) ε) : EW K cs W (tCB (rListQ K) ta) G φ ε := ew_ef (ef_list (aw_mono h fun xs ⟨x, ys, e, hx, p⟩ => ⟨x, ys, e, hx, ys, rfl, p⟩))
theorem new_tupW {vs : List V} {xs : List PyData} (S : Sta K Wd B ad H0 H σ G) (d : DpAll K (less H (Zs Wd B ad G)) vs xs) {l : Addr} (hl : H l = none) {Q : VK} (p : φ (.tuple xs))
    (q : ∀ z, φ z → ∀ v H2, Sta K Wd B ad H0 H2 σ G → Xb B H H2 → Dp K (less H2 (Zs Wd B ad G)) v z → Q v H2) : Q (.ref l) (upd H l (.tup vs)) := by
  obtain ⟨S2, e2, g⟩ := new_ex (o := .tup vs) S hl
  exact q _ p _ _ S2 e2 (.tup (st_of g) (dpa_mono (Xb.lz e2) d))
theorem ew_tuple {ta : TA} (h : AW K cs W ta G (fun xs => ∃ x ys, xs = [x] ∧ itemsOf x = some ys ∧ φ (.tuple ys)) ε) : EW K cs W (tCB (rTupQ K) ta) G φ ε := ew_cb (aw_mono h fun xs ⟨x, ys, e, hx, p⟩ Wd B ad H0 H σ vs S d Q q => by
  subst e
  obtain ⟨v, rfl, d1⟩ := dp1 d
  rcases items_cases hx with rfl | rfl
  · cases d1 with
    | lst g t => exact ⟨_, _, rfl, .inl ⟨ex_l less_ex g, fun l hl => new_tupW S t hl p q⟩⟩
  · cases d1 with
    | tup g t => exact ⟨_, _, rfl, .inr ⟨ex_t less_ex g, q _ p _ H S Xb.refl (.tup g t)⟩⟩)
noncomputable def AllB (xs : List PyData) (b : Bool) : Prop := ∃ bs : List Bool, xs = [.list (bs.map PyData.bool)] ∧ b = bs.all id
theorem ew_all {ta : TA} (h : AW K cs W ta G (fun xs => ∃ b, AllB xs b ∧ φ (.bool b)) ε) : EW K cs W (tCB (rAll K) ta) G φ ε := ew_cb (aw_mono h fun xs ⟨b, ⟨bs, e, eb⟩, p⟩ Wd B ad H0 H σ vs S d Q q => by
  subst e
  subst eb
  obtain ⟨v, rfl, d1⟩ := dp1 d
  cases d1 with
  | lst g t =>
    have e := dpa_bools t
    subst e
    exact ⟨_, bs, rfl, ex_l less_ex g, q _ p _ H S Xb.refl (.bl _)⟩)
theorem ew_isi {n : String} (h : EW K cs W ta G (fun x => ∃ b, kitB (tyN x) n = some b ∧ φ (.bool b)) ε) : EW K cs W (tCB (rIsi K) (tCons ta (tCons (tC (.ty n)) tNil))) G φ ε := fun Wd B ad H0 H σ S Q q x =>
  h Wd B ad H0 H σ S _ (fun y ⟨b, hb, p⟩ v H1 S1 e1 d1 => ⟨v, .ty n, _, _, b, rfl, .ty n, dp_ty d1, kit_ty hb, q _ p _ H1 S1 e1 (.bl _)⟩) x
/-! ### slices, joins -/
theorem ow_none (p : ω none) : OW K cs W tNoPart G ω ε := fun Wd B ad H0 H σ S Q q _ => q _ p H S Xb.refl
theorem ow_some (h : EW K cs W te G (fun x => ∃ i, x = .int i ∧ ω (some i)) ε) : OW K cs W (tPart te) G ω ε := fun Wd B ad H0 H σ S Q q x => h Wd B ad H0 H σ S _ (fun y ⟨i, e, p⟩ v H1 S1 e1 d1 => by
  subst e
  cases d1
  exact ⟨i, rfl, q _ p H1 S1 e1⟩) x
theorem ew_slA {tl th : TO} (h : EW K cs W te G (fun x => ∃ xs, x = .tuple xs ∧ OW K cs W tl G (fun lo => OW K cs W th G (fun hi => φ (.tuple (cutD xs lo hi))) ε) ε) ε) : EW K cs W (tSl (rSlA K) te tl th) G φ ε := fun Wd B ad H0 H σ S Q q x =>
  h Wd B ad H0 H σ S _ (fun y ⟨xs, e, p⟩ v H1 S1 e1 d1 => p Wd B ad H0 H1 σ S1 _ (fun lo p H2 S2 e2 => p Wd B ad H0 H2 σ S2 _ (fun hi p H3 S3 e3 => by
    subst e
    cases dp_mono (Xb.lz (e2.trans e3)) d1 with
    | tup g t =>
      have l := dpa_len t
      refine ⟨_, _, rfl, ex_t less_ex g, fun z => ?_, fun z l hl => new_tupW S3 (dpa_cut t lo hi) hl p fun z p v H4 S4 e4 d4 => q z p v H4 S4 ((e1.trans (e2.trans e3)).trans e4) d4⟩
      rw [l] at z
      exact q _ p _ H3 S3 (e1.trans (e2.trans e3)) (by rw [cutD_whole z]; exact .tup g t)) ((x.go e1).go e2)) (x.go e1)) x
theorem ew_catA (h : EW K cs W ta G (fun x => ∃ xs, x = .tuple xs ∧ EW K cs W tb G (fun y => ∃ ys, y = .tuple ys ∧ xs.length + ys.length ≤ 16000000 ∧ φ (.tuple (xs ++ ys))) ε) ε) : EW K cs W (tOp (rCatA K) ta tb) G φ ε :=
  ew_op (ew_mono h fun x ⟨xs, e, h⟩ => ew_mono h fun y ⟨ys, e2, hl, p⟩ => fun Wd B ad H0 H σ v w S d1 d2 Q q => by
    subst e; subst e2
    cases d1 with
    | tup g t =>
      cases d2 with
      | tup g2 t2 =>
        refine ⟨_, _, _, _, rfl, rfl, ex_t less_ex g, ex_t less_ex g2, by rw [dpa_len t, dpa_len t2]; exact sz_line hl, fun z => ?_, fun z1 z2 => ?_, fun z1 z2 l hl => new_tupW S (dpa_app t t2) hl p q⟩
        · have e := (dpa_nil t).mp z
          subst e
          exact q _ p _ H S Xb.refl (.tup g2 t2)
        · have e := (dpa_nil t2).mp z2
          subst e
          exact q _ p _ H S Xb.refl (by rw [List.append_nil]; exact .tup g t))
/-! ### in, of whole numbers -/
end
end U.N

end
section
namespace U.N
open PySem PyProof.Rows L2 Evl
/-! ### statements -/
noncomputable def sq (K : Fg) (cs : Cs) (W : WX) (tz : TS) (Φ : Out → Prop) : Out → Prop
  | .nx G => SW K cs W tz G Φ
  | .rt x => Φ (.rt x)
  | .rl c => Φ (.rl c)
  | .bk G => Φ (.bk G)
  | .ct G => Φ (.ct G)
  | .ex e G => Φ (.ex e G)
/-- what a turn of a loop may end with -/
noncomputable def lp (I : Gam → Prop) (Φ : Out → Prop) : Out → Prop
  | .nx G => I G
  | .ct G => I G
  | .bk G => Φ (.nx G)
  | .rt x => Φ (.rt x)
  | .rl c => Φ (.rl c)
  | .ex e G => Φ (.ex e G)
section
variable {K : Fg} {cs : Cs} {W : WX} {G G' G1 G2 : Gam} {ta tb tc te : TE} {t u : TT} {tu tw tz : TS} {φ : PyData → Prop} {ε : Xw → Prop} {ψ : Bool → Prop} {α : List PyData → Prop} {ι : List PyData → Prop} {χ : Own → Prop} {Φ Ψ : Out → Prop}
variable {Wd : Addr → Prop} {B : Bt} {ad : Nat → Addr} {H0 H H1 H2 : Hp} {σ : St}
theorem PostO.mono {M M' : Hp} {D : Ends} {o : Out} (e : Ex M M') (h : PostO K cs W Wd B H0 M D o) : PostO K cs W Wd B H0 M' D o := qt_of (by simp (disch := with_unfolding_all
  cases o with
  | nx G => exact fun ad H σ S x => h ad H σ S (e.trans x)
  | rt x => exact h
  | rl c => exact h
  | bk G => exact fun ad H σ S x => h ad H σ S (e.trans x)
  | ct G => exact fun ad H σ S x => h ad H σ S (e.trans x)
  | ex e' G => exact fun d ad H σ S x => h d ad H σ S (e.trans x)
  ) only [↓qt_eq])
theorem post_xp {D : Ends} (q : ∀ o, Φ o → PostO K cs W Wd B H0 (less H (Zs Wd B ad G)) D o) : XP K cs W Wd B ad H0 H σ G (fun e => Φ (.ex e G)) := fun e he d H2 S x hd hx => q _ he d ad H2 σ S (Xb.lz x) hd hx
theorem sw_mono (h : SW K cs W tu G Φ) (m : ∀ o, Φ o → Ψ o) : SW K cs W tu G Ψ := fun Wd B ad H0 H σ D S q => h Wd B ad H0 H σ D S fun o p => q o (m o p)
theorem sw_seq (h : SW K cs W tu G (sq K cs W tz Φ)) : SW K cs W (tSeq tu tz) G Φ := fun Wd B ad H0 H σ D S q =>
  h Wd B ad H0 H σ { D with nx := tz D } S fun o p => by
    cases o with
    | nx G1 => exact fun ad' H' σ' S' e => p Wd B ad' H0 H' σ' D S' fun o p => (q o p).mono e
    | rt x => exact q _ p
    | rl c => exact q _ p
    | bk G => exact q _ p
    | ct G => exact q _ p
    | ex e G => exact q _ p
theorem sq_nx (h : SW K cs W tz G Φ) : sq K cs W tz Φ (.nx G) := h
theorem sq_rt {x : PyData} (h : Φ (.rt x)) : sq K cs W tz Φ (.rt x) := h
theorem lp_nx {I : Gam → Prop} (h : I G) : lp I Φ (.nx G) := h
theorem lp_rt {I : Gam → Prop} {x : PyData} (h : Φ (.rt x)) : lp I Φ (.rt x) := h
theorem sw_next (h : Φ (.nx G)) : SW K cs W tNext G Φ := fun Wd B ad H0 H σ D S q => q _ h ad H σ S (Ex.refl _)
theorem sw_asg {i : Nat} (h : EW K cs W te G (fun x => Φ (.nx (G.set i (.d x)))) (fun e => Φ (.ex e G))) : SW K cs W (tAsg te (gName i)) G Φ := fun Wd B ad H0 H σ D S q =>
  h Wd B ad H0 H σ S _ (fun x p v H1 S1 e1 d1 => q _ p ad H1 _ (S1.setD d1) ((Xb.lz e1).trans (less_sub fun a z => Zs.set_of (fun _ z => by cases z) z))) (post_xp q)
/-- a new thing of one's own -/
theorem sw_asgF {i : Nat} (h : EF K cs W te G (fun c => Φ (.nx (G.set i (.ow c)))) (fun e => Φ (.ex e G))) : SW K cs W (tAsg te (gName i)) G Φ := fun Wd B ad H0 H σ D S q =>
  h Wd B ad H0 H σ S _ (fun c p a vs H1 S1 e1 hn d => q _ p _ _ _ (S1.setOwn (i := i) hn d) ((Xb.lz e1).trans (own_ex hn))) (post_xp q)
theorem sw_ret (h : EW K cs W te G (fun x => Φ (.rt x)) (fun e => Φ (.ex e G))) : SW K cs W (tRet te) G Φ := fun Wd B ad H0 H σ D S q =>
  h Wd B ad H0 H σ S _ (fun x p v H1 S1 e1 d1 => q _ p v H1 S1.base S1.bag (fun p hp => (S1.tab p hp).mono (less_sub fun a z => z.elim .inl fun z => .inr (.inr z)) rfl) (dp_mono (less_sub fun a z => z.elim .inl fun z => .inr (.inr z)) d1)) (post_xp q)
/-- a new list is told -/
theorem sw_retF (h : EF K cs W te G (fun c => Φ (.rl c)) (fun e => Φ (.ex e G))) : SW K cs W (tRet te) G Φ := fun Wd B ad H0 H σ D S q =>
  h Wd B ad H0 H σ S _ (fun c p a vs H1 S1 e1 hn d => by
    obtain ⟨S2, e2, g⟩ := new_ex (o := c.obj a vs) S1 hn
    refine q _ p a vs _ S2.base S2.bag (fun p hp => ((S1.tabN hn p hp).ex (Ex.new hn)).mono (less_sub fun b z => z.elim (fun z => .inl (z.elim .inl fun z => .inr (.inr z))) .inr) rfl) (S1.fresh hn).1 upd_same (dpa_mono ?_ d)
    intro b o hb
    obtain ⟨z, hb⟩ := less_some hb
    refine less_of (fun y => ?_) (e2 _ _ hb fun y => z (.inr (.inr y)))
    rcases y with (y | y) | y
    · exact z (.inl y)
    · exact z (.inr (.inr y))
    · rw [y, hn] at hb; cases hb) (post_xp q)
theorem sw_if (h : TW K cs W t G (fun b => Cnd b (SW K cs W tu G Φ) (SW K cs W tw G Φ)) (fun e => Φ (.ex e G))) : SW K cs W (tIfS t tu tw) G Φ := fun Wd B ad H0 H σ D S q =>
  h Wd B ad H0 H σ S _ (fun b p H1 S1 e1 => by
    cases b with
    | true => exact iteT (p.1 rfl Wd B ad H0 H1 σ D S1 fun o p => (q o p).mono (Xb.lz e1))
    | false => exact iteF (p.2 rfl Wd B ad H0 H1 σ D S1 fun o p => (q o p).mono (Xb.lz e1))) (post_xp q)
theorem sw_freeze {i : Nat} {xs : List PyData} (hi : G[i]? = some (.ow (ol xs))) (h : SW K cs W tu (G.set i (.d (.list xs))) Φ) (hx : ∀ e G', Φ (.ex e G') → True := by intros; trivial) : SW K cs W tu G Φ := fun Wd B ad H0 H σ D S q =>
  h Wd B ad H0 H σ D (S.freeze hi) fun o p => (q o p).mono (less_sub fun a z => Zs.set_of (fun _ z => by cases z) z)
/-! ### lists of one's own -/
theorem sw_app {i : Nat} {xs : List PyData} (hi : G[i]? = some (.ow (ol xs))) (hl : xs.length < 16000000) (h : EW K cs W te G (fun x => Φ (.nx (G.set i (.ow (ol (xs ++ [x])))))) (fun e => Φ (.ex e G))) : SW K cs W (tDrop (tBM K "list" rAppend (tVar i) (tCons te tNil))) G Φ := fun Wd B ad H0 H σ D S q => by
  obtain ⟨o, g1, rfl, vs, g3, g4⟩ := S.at_ i _ hi
  have g3 : H (ad i) = some (.lst vs) := g3
  refine ⟨_, g1, Or.inl ⟨rfl, vs, sq_of g3⟩, h Wd B ad H0 H σ S _ (fun x p v H1 S1 e1 d1 => ?_) (post_xp q)⟩
  obtain ⟨_, _, _, us, g5, g6⟩ := S1.at_ i _ hi
  have g6 : DpAll K _ us xs := g6
  exact ⟨_, us, v, rfl, rfl, g5, by rw [dpa_len g6]; exact Nat.lt_of_lt_of_le hl (by decide), q _ p ad _ σ (S1.chg (c' := ol (xs ++ [x])) hi (dpa_app g6 (.cons d1 .nil))) ((Xb.lz e1).trans (chg_ex hi))⟩
/-! ### what is forgotten -/
/-! ### targets -/
/-- targets that only set names: vs tells which -/
noncomputable def GC (K : Fg) (g : TG) (vs : List Nat) (G : Gam) (x : PyData) (γ : Gam → Prop) : Prop :=
  ∀ Wd B ad H0 H σ v, Sta K Wd B ad H0 H σ G → Dp K (less H (Zs Wd B ad G)) v x → ∀ Q : St → Hp → Prop,
  (∀ G' σ', γ G' → G.length = G'.length → (∀ i, i ∉ vs → G'[i]? = G[i]?) → (∀ i c, i ∈ vs → G'[i]? = some (.ow c) → G[i]? = some (.ow c)) → Sta K Wd B ad H0 H σ' G' → Ex (less H (Zs Wd B ad G)) (less H (Zs Wd B ad G')) → wipe σ' vs = wipe σ vs → Q σ' H) → g v σ H Q
noncomputable def GsC (K : Fg) (g : TGs) (vs : List Nat) (G : Gam) (xs : List PyData) (γ : Gam → Prop) : Prop :=
  ∀ Wd B ad H0 H σ us, Sta K Wd B ad H0 H σ G → DpAll K (less H (Zs Wd B ad G)) us xs → ∀ Q : St → Hp → Prop,
  (∀ G' σ', γ G' → G.length = G'.length → (∀ i, i ∉ vs → G'[i]? = G[i]?) → (∀ i c, i ∈ vs → G'[i]? = some (.ow c) → G[i]? = some (.ow c)) → Sta K Wd B ad H0 H σ' G' → Ex (less H (Zs Wd B ad G)) (less H (Zs Wd B ad G')) → wipe σ' vs = wipe σ vs → Q σ' H) → g us σ H Q
variable {γ : Gam → Prop} {vs : List Nat}
theorem gc_name {i : Nat} {x : PyData} (hi : i ∈ vs) (h : γ (G.set i (.d x))) : GC K (gName i) vs G x γ := fun Wd B ad H0 H σ v S d Q q => by
  refine q _ _ h (by rw [List.length_set]) (fun j hj => List.getElem?_set_ne fun (e : i = j) => hj (by rw [← e]; exact hi)) (fun j c _ g => ?_) (S.setD d) (less_sub fun a z => Zs.set_of (fun _ z => by cases z) z) (wipe_set hi)
  rcases get_set g with ⟨rfl, _, e⟩ | ⟨_, g⟩
  · cases e
  · exact g
theorem gsc_nil (h : γ G) : GsC K gNil vs G [] γ := fun Wd B ad H0 H σ us S d Q q => by
  cases d
  exact ⟨rfl, q _ _ h rfl (fun _ _ => rfl) (fun _ _ _ g => g) S (Ex.refl _) rfl⟩
theorem gsc_cons {g : TG} {gs : TGs} {x : PyData} {xs : List PyData} (h : GC K g vs G x (fun G' => GsC K gs vs G' xs γ)) : GsC K (gCons g gs) vs G (x :: xs) γ := fun Wd B ad H0 H σ us S d Q q => by
  cases d with
  | cons a b =>
    refine ⟨_, _, rfl, h Wd B ad H0 H σ _ S a _ fun G1 σ1 p l1 o1 w1 S1 e1 x1 => ?_⟩
    exact p Wd B ad H0 H σ1 _ S1 (dpa_mono e1 b) _ fun G2 σ2 p l2 o2 w2 S2 e2 x2 => q G2 σ2 p (l1.trans l2) (fun i hi => (o2 i hi).trans (o1 i hi)) (fun i c hi g => w1 i c hi (w2 i c hi g)) S2 (e1.trans e2) (x2.trans x1)
theorem gc_tup {n : Nat} {gs : TGs} {xs : List PyData} (hn : xs.length = n) (h : GsC K gs vs G xs γ) : GC K (gTup K n gs) vs G (.tuple xs) γ := fun Wd B ad H0 H σ v S d Q q => by
  cases d with
  | tup g t => exact ⟨_, _, rfl, ex_t less_ex g, (dpa_len t).trans hn, h Wd B ad H0 H σ _ S t Q q⟩
/-- targets at large -/
noncomputable def GW (K : Fg) (g : TG) (G : Gam) (x : PyData) (γ : Gam → Prop) : Prop :=
  ∀ Wd B ad H0 H σ v, Sta K Wd B ad H0 H σ G → Dp K (less H (Zs Wd B ad G)) v x → ∀ Q : St → Hp → Prop,
  (∀ G' ad' H' σ', γ G' → Sta K Wd B ad' H0 H' σ' G' → Ex (less H (Zs Wd B ad G)) (less H' (Zs Wd B ad' G')) → Q σ' H') → g v σ H Q
theorem gw_gc (vs : List Nat) {g : TG} {x : PyData} (h : GC K g vs G x γ) : GW K g G x γ := fun Wd B ad H0 H σ v S d Q q => h Wd B ad H0 H σ v S d Q fun G' σ' p _ _ _ S' e _ => q G' ad H σ' p S' e
theorem gw_name {i : Nat} {x : PyData} (h : γ (G.set i (.d x))) : GW K (gName i) G x γ := gw_gc [i] (gc_name (List.mem_singleton.mpr rfl) h)
/-! ### what is walked -/
theorem dp_itL {v : V} {ds : List PyData} {M : Hp} (d : Dp K M v (.list ds)) : ∃ a vs, v = .ref a ∧ SqL K M a vs ∧ ItOk K (Itl K a) ds M := qt_of (by simp (disch := with_unfolding_all
  cases d with
  | @lst a vs _ g t =>
    refine ⟨a, vs, rfl, g, fun H' Z hz e i => ?_⟩
    have g' : SqL K H' a vs := ex_l less_ex (ex_l e g)
    refine ⟨fun d hd => ?_, fun hl => ⟨vs, g', by rw [dpa_len t]; exact hl⟩, fun x H'' hy => ?_⟩
    · obtain ⟨v, hv, _⟩ := dpa_get t hd
      exact ⟨vs, v, g', hv⟩
    · obtain ⟨rfl, hy⟩ := hy
      refine ⟨Ex.refl _, fun d hd => ?_⟩
      obtain ⟨v, hv, hd⟩ := dpa_get t hd
      have ev : v = x := Option.some.inj (hv.symm.trans (hy vs g'))
      rw [← ev]
      exact dp_mono e hd
  ) only [↓qt_eq])
theorem dp_itT {v : V} {ds : List PyData} {M : Hp} (d : Dp K M v (.tuple ds)) : ∃ a vs, v = .ref a ∧ SqT K M a vs ∧ ItOk K (Itt K a) ds M := qt_of (by simp (disch := with_unfolding_all
  cases d with
  | @tup a vs _ g t =>
    refine ⟨a, vs, rfl, g, fun H' Z hz e i => ?_⟩
    have g' : SqT K H' a vs := ex_t less_ex (ex_t e g)
    refine ⟨fun d hd => ?_, fun hl => ⟨vs, g', by rw [dpa_len t]; exact hl⟩, fun x H'' hy => ?_⟩
    · obtain ⟨v, hv, _⟩ := dpa_get t hd
      exact ⟨vs, v, g', hv⟩
    · obtain ⟨rfl, hy⟩ := hy
      refine ⟨Ex.refl _, fun d hd => ?_⟩
      obtain ⟨v, hv, hd⟩ := dpa_get t hd
      have ev : v = x := Option.some.inj (hv.symm.trans (hy vs g'))
      rw [← ev]
      exact dp_mono e hd
  ) only [↓qt_eq])
theorem iw_list (h : EW K cs W te G (fun x => ∃ ds, x = .list ds ∧ ι ds) ε) : IW K cs W (iList K te) G ι ε := fun Wd B ad H0 H σ S R q x => h Wd B ad H0 H σ S _ (fun y ⟨ds, e, p⟩ v H1 S1 e1 d1 => by
  subst e
  obtain ⟨a, vs, rfl, g, ok⟩ := dp_itL d1
  exact ⟨a, rfl, ⟨vs, ex_l less_ex g⟩, q ds p _ H1 S1 e1 ok⟩) x
theorem iw_tup (h : EW K cs W te G (fun x => ∃ ds, x = .tuple ds ∧ ι ds) ε) : IW K cs W (iTup K te) G ι ε := fun Wd B ad H0 H σ S R q x => h Wd B ad H0 H σ S _ (fun y ⟨ds, e, p⟩ v H1 S1 e1 d1 => by
  subst e
  obtain ⟨a, vs, rfl, g, ok⟩ := dp_itT d1
  exact ⟨a, rfl, ⟨vs, ex_t less_ex g⟩, q ds p _ H1 S1 e1 ok⟩) x
theorem iw_seq (h : EW K cs W te G (fun x => ∃ ds, itemsOf x = some ds ∧ ι ds) ε) : IW K cs W (iSeq K te) G ι ε := fun Wd B ad H0 H σ S R q x => h Wd B ad H0 H σ S _ (fun y ⟨ds, e, p⟩ v H1 S1 e1 d1 => by
  rcases items_cases e with rfl | rfl
  · obtain ⟨a, vs, rfl, g, ok⟩ := dp_itL d1
    exact ⟨a, rfl, .inl ⟨⟨vs, ex_l less_ex g⟩, q ds p _ H1 S1 e1 ok⟩⟩
  · obtain ⟨a, vs, rfl, g, ok⟩ := dp_itT d1
    exact ⟨a, rfl, .inr ⟨⟨vs, ex_t less_ex g⟩, q ds p _ H1 S1 e1 ok⟩⟩) x
theorem iw_rng1 {ta : TA} (h : AW K cs W ta G (fun xs => ∃ n : Int, xs = [.int n] ∧ (-1000000 ≤ n ∧ n ≤ 1000000) ∧ ι (rngD 0 n.toNat)) ε) : IW K cs W (iRng1 ta) G ι ε := fun Wd B ad H0 H σ S R q x => h Wd B ad H0 H σ S _ (fun xs ⟨n, e, hn, p⟩ vs H1 S1 e1 d1 => by
  subst e
  obtain ⟨v, rfl, d⟩ := dp1 d1
  cases d
  exact ⟨n, rfl, by omega, by omega, q _ p _ H1 S1 e1 it_rng⟩) x
/-! ### loops -/
/-- what is asked of a loop over ds: an invariant of the turn and the slots -/
noncomputable def ForI (K : Fg) (cs : Cs) (W : WX) (g : TG) (tb : TS) (G : Gam) (Φ : Out → Prop) (ds : List PyData) : Prop :=
  ∃ I : Nat → Gam → Prop, I 0 G ∧ (∀ i x G1, ds[i]? = some x → I i G1 → GW K g G1 x (fun Gt => SW K cs W tb Gt (lp (I (i + 1)) Φ))) ∧ ∀ G1, I ds.length G1 → Φ (.nx G1)
theorem sw_for {wi : TI} {g : TG} {tb : TS} (h : IW K cs W wi G (ForI K cs W g tb G Φ) (fun e => Φ (.ex e G))) : SW K cs W (tFor wi g tb) G Φ := fun Wd B ad H0 H σ D S q =>
  h Wd B ad H0 H σ S _ (fun ds ⟨I, i0, hs, hd⟩ J H1 S1 e1 ok => by
    refine ⟨fun i m σ' H' => m = ds.length - i ∧ i ≤ ds.length ∧ ∃ ad' G1, I i G1 ∧ Sta K Wd B ad' H0 H' σ' G1 ∧ Ex (less H1 (Zs Wd B ad G)) (less H' (Zs Wd B ad' G1)), ⟨ds.length, rfl, Nat.zero_le _, ad, G, i0, S1, Ex.refl _⟩, ?_⟩
    rintro i m σ' H' ⟨rfl, hi, ad', G1, hI, S', e'⟩
    obtain ⟨k1, k2, k3⟩ := ok H' (Zs Wd B ad' G1) S'.there e' i
    by_cases hlt : i < ds.length
    · have hx : ds[i]? = some ds[i] := List.getElem?_eq_getElem hlt
      refine .inr ⟨k1 _ hx, fun σ3 H3 => ∃ ad3 G3, I (i + 1) G3 ∧ Sta K Wd B ad3 H0 H3 σ3 G3 ∧ Ex (less H1 (Zs Wd B ad G)) (less H3 (Zs Wd B ad3 G3)), ?_, fun v H'' hy => ?_⟩
      · rintro σ3 H3 ⟨ad3, G3, h3, S3, e3⟩
        exact ⟨ds.length - (i + 1), by omega, rfl, hlt, ad3, G3, h3, S3, e3⟩
      · obtain ⟨ex, dx⟩ := k3 v H'' hy
        have S2 := S'.ext ex
        refine hs i _ G1 hx hI Wd B ad' H0 H'' σ' v S2 (dx _ hx) _ fun Gt ad2 H2 σ2 hb S3 e3 => ?_
        have e4 : Ex (less H1 (Zs Wd B ad G)) (less H2 (Zs Wd B ad2 Gt)) := (e'.trans (less_mono ex)).trans e3
        have e5 := (Xb.lz (W := Wd) (ad := ad) (G := G) e1).trans e4
        refine hb Wd B ad2 H0 H2 σ2 _ S3 fun o p => ?_
        cases o with
        | nx G4 => exact fun ad4 H4 σ4 S4 x4 => ⟨ad4, G4, p, S4, e4.trans x4⟩
        | ct G4 => exact fun ad4 H4 σ4 S4 x4 => ⟨ad4, G4, p, S4, e4.trans x4⟩
        | bk G4 => exact fun ad4 H4 σ4 S4 x4 => q _ p ad4 H4 σ4 S4 (e5.trans x4)
        | rt x => exact q _ p
        | rl c => exact q _ p
        | ex e G4 => exact fun d ad4 H4 σ4 S4 x4 => q _ p d ad4 H4 σ4 S4 (e5.trans x4)
    · have en : i = ds.length := by omega
      subst en
      exact .inl ⟨k2 (Nat.le_refl _), q _ (hd G1 hI) ad' H' σ' S' ((Xb.lz e1).trans e')⟩) (post_xp q)
/-- by what is done already -/
theorem forP {β : Type} {g : TG} {tb : TS} {xs : List β} {f : β → PyData} (I : List β → Gam → Prop) (h0 : I [] G) (hs : ∀ pre x post G1, xs = pre ++ x :: post → I pre G1 → GW K g G1 (f x) (fun Gt => SW K cs W tb Gt (lp (I (pre ++ [x])) Φ))) (he : ∀ G1, I xs G1 → Φ (.nx G1)) : ForI K cs W g tb G Φ (xs.map f) := by
  refine ⟨fun i G1 => I (xs.take i) G1, h0, fun i x G1 hx hI => ?_, fun G1 hI => he G1 (by rw [List.length_map, List.take_length] at hI; exact hI)⟩
  rw [List.getElem?_map] at hx
  cases hb : xs[i]? with
  | none => rw [hb] at hx; cases hx
  | some b =>
    rw [hb] at hx
    cases hx
    obtain ⟨hlt, hbe⟩ := List.getElem?_eq_some_iff.mp hb
    have e : xs = xs.take i ++ b :: xs.drop (i + 1) := by rw [← hbe, List.getElem_cons_drop, List.take_append_drop]
    have e2 : xs.take (i + 1) = xs.take i ++ [b] := by rw [List.take_succ, hb]; rfl
    show GW K g G1 (f b) (fun Gt => SW K cs W tb Gt (lp (fun G1 => I (xs.take (i + 1)) G1) Φ))
    rw [e2]
    exact hs _ b _ G1 e hI
end
end U.N

end
section
namespace U.N
open PySem PyProof.Rows L2 Evl
inductive All2 {α β : Type} (R : α → β → Prop) : List α → List β → Prop
  | nil : All2 R [] []
  | cons {x : α} {y : β} {xs : List α} {ys : List β} : R x y → All2 R xs ys → All2 R (x :: xs) (y :: ys)
namespace All2
variable {α β γ : Type} {R : α → β → Prop}
theorem len : ∀ {xs : List α} {ys : List β}, All2 R xs ys → xs.length = ys.length
  | _, _, .nil => rfl
  | _, _, .cons _ t => congrArg (· + 1) t.len
theorem of_map {f : γ → α} : ∀ {xs : List γ} {ys : List β}, All2 R (xs.map f) ys → All2 (fun x y => R (f x) y) xs ys
  | [], _, .nil => .nil
  | _ :: _, _, .cons a t => .cons a t.of_map
theorem mem_r : ∀ {xs : List α} {ys : List β}, All2 R xs ys → ∀ y ∈ ys, ∃ x ∈ xs, R x y
  | _, _, .nil, y, h => by cases h
  | _, _, .cons a t, y, h => by
    rcases List.mem_cons.mp h with rfl | h
    · exact ⟨_, List.mem_cons_self .., a⟩
    · obtain ⟨x, hx, r⟩ := t.mem_r y h
      exact ⟨x, List.mem_cons_of_mem _ hx, r⟩
/-- y's that all are of one form -/
theorem exists_map {δ : Type} {g : δ → β} {P : α → δ → Prop} : ∀ {xs : List α} {ys : List β}, All2 (fun x y => ∃ d, y = g d ∧ P x d) xs ys → ∃ ds : List δ, ys = ds.map g ∧ All2 P xs ds
  | _, _, .nil => ⟨[], rfl, .nil⟩
  | _, _, .cons ⟨d, e, p⟩ t => by
    obtain ⟨ds, e2, p2⟩ := t.exists_map
    exact ⟨d :: ds, by rw [e, e2]; rfl, .cons p p2⟩
end All2
section
variable {K : Fg} {cs : Cs} {W : WX} {G G' G1 G2 : Gam} {ta tb tc te : TE} {t u tt tt1 : TT} {φ : PyData → Prop} {ε : Xw → Prop} {ψ : Bool → Prop} {α : List PyData → Prop} {ι : List PyData → Prop} {χ : Own → Prop} {Φ Ψ : Out → Prop}
variable {Wd : Addr → Prop} {B : Bt} {ad : Nat → Addr} {H0 H H1 H2 : Hp} {σ σ' : St} {vs vs1 : List Nat} {wi wi1 : TI} {g g1 : TG}
noncomputable abbrev noX : Xw → Prop := fun _ => False
theorem xp_no : XP K cs W Wd B ad H0 H σ G noX := fun _ h => h.elim
theorem Sta.slots (S : Sta K Wd B ad H0 H σ G) (hl : G.length = G'.length) (ho : ∀ i, i ∉ vs → G'[i]? = G[i]?) (hu : ∀ i e, i ∈ vs → G'[i]? = some e → e = .un) (hg : ∀ i c, i ∈ vs → G[i]? ≠ some (.ow c)) (hw : wipe σ vs = wipe σ' vs) : Sta K Wd B ad H0 H σ' G' := qt_of (by simp (disch := with_unfolding_all
  have hls : σ.length = σ'.length := by
    have := congrArg List.length hw
    rw [wipe_length, wipe_length] at this
    exact this
  have own : ∀ (i : Nat) (c : Own), G'[i]? = some (En.ow c) ↔ G[i]? = some (En.ow c) := fun i c => by
    by_cases hi : i ∈ vs
    · exact ⟨fun g => absurd (hu i _ hi g) (fun e => by cases e), fun g => absurd g (hg i c hi)⟩
    · rw [ho i hi]
  have zl : Zs Wd B ad G' = Zs Wd B ad G := funext fun a => propext (by
    constructor
    · rintro (z | ⟨i, c, g, r⟩ | z)
      · exact .inl z
      · exact .inr (.inl ⟨i, c, (own i c).mp g, r⟩)
      · exact .inr (.inr z)
    · rintro (z | ⟨i, c, g, r⟩ | z)
      · exact .inl z
      · exact .inr (.inl ⟨i, c, (own i c).mpr g, r⟩)
      · exact .inr (.inr z))
  refine ⟨hls ▸ (S.len.trans hl), fun i e g => ?_, fun i j c c' g g' q => S.inj i j c c' ((own i c).mp g) ((own j c').mp g') q, fun i c g => S.sep i c ((own i c).mp g), S.base, S.bag, S.wd, fun p hp => (S.tab p hp).mono (by rw [zl]; exact Ex.refl _) rfl⟩
  by_cases hi : i ∈ vs
  · have e := hu i e hi g
    subst e
    have il : i < σ'.length := by rw [← hls, S.len, hl]; exact (List.getElem?_eq_some_iff.mp g).1
    exact ⟨σ'[i], List.getElem?_eq_getElem il, trivial⟩
  · rw [ho i hi] at g
    obtain ⟨o, g1, g2⟩ := S.at_ i e g
    refine ⟨o, ?_, by rw [zl]; exact g2⟩
    rw [← wipe_get hi, ← hw, wipe_get hi]
    exact g1
  ) only [↓qt_eq])
theorem zs_same {G' : Gam} (hl : ∀ (i : Nat) (c : Own), G'[i]? = some (En.ow c) ↔ G[i]? = some (En.ow c)) : Zs Wd B ad G' = Zs Wd B ad G := funext fun a => propext (by
  constructor
  · rintro (z | ⟨i, c, g, r⟩ | z)
    · exact .inl z
    · exact .inr (.inl ⟨i, c, (hl i c).mp g, r⟩)
    · exact .inr (.inr z)
  · rintro (z | ⟨i, c, g, r⟩ | z)
    · exact .inl z
    · exact .inr (.inl ⟨i, c, (hl i c).mpr g, r⟩)
    · exact .inr (.inr z))
theorem zs_lend {p : Addr} : Zs (fun a => Wd a ∨ a = p) B ad G = fun a => Zs Wd B ad G a ∨ a = p := funext fun a => propext (by
  constructor
  · rintro ((z | z) | z | z)
    · exact .inl (.inl z)
    · exact .inr z
    · exact .inl (.inr (.inl z))
    · exact .inl (.inr (.inr z))
  · rintro ((z | z | z) | z)
    · exact .inl (.inl z)
    · exact .inr (.inl z)
    · exact .inr (.inr z)
    · exact .inl (.inr z))
noncomputable def opts (os : List (Option PyData)) : List PyData := os.filterMap id
theorem opts_snoc {os : List (Option PyData)} {o : Option PyData} : opts (os ++ [o]) = opts os ++ o.toList := by
  unfold opts
  rw [List.filterMap_append]
  cases o <;> rfl
theorem opts_len (os : List (Option PyData)) : (opts os).length ≤ os.length := List.length_filterMap_le ..
/-- one for each turn -/
noncomputable def Each {β : Type} (R : Nat → β → Prop) (n : Nat) (os : List β) : Prop := os.length = n ∧ ∀ i o, os[i]? = some o → R i o
theorem each_nil {β : Type} {R : Nat → β → Prop} : Each R 0 [] := ⟨rfl, fun i o h => by simp at h⟩
theorem Each.snoc {β : Type} {R : Nat → β → Prop} {n : Nat} {os : List β} {o : β} (h : Each R n os) (r : R n o) : Each R (n + 1) (os ++ [o]) := by
  refine ⟨by simp [h.1], fun i o' hi => ?_⟩
  by_cases hl : i < os.length
  · rw [List.getElem?_append_left hl] at hi
    exact h.2 i o' hi
  · rw [List.getElem?_append_right (by omega)] at hi
    have e : i - os.length = 0 := by
      have := (List.getElem?_eq_some_iff.mp hi).1
      simp at this
      omega
    rw [e] at hi
    cases hi
    have : i = n := by have := h.1; omega
    rw [this]; exact r
theorem Each.all2 {α β : Type} {R : Nat → β → Prop} : ∀ {xs : List α} {os : List β}, Each R xs.length os → ∀ {S : α → β → Prop}, (∀ i x o, xs[i]? = some x → R i o → S x o) → All2 S xs os := fun {xs} => by
  induction xs generalizing R with
  | nil =>
    intro os h S m
    have := h.1
    have e : os = [] := List.eq_nil_of_length_eq_zero this
    rw [e]; exact .nil
  | cons x xs ih =>
    intro os h S m
    cases os with
    | nil => have := h.1; simp at this
    | cons o os =>
      refine .cons (m 0 x o rfl (h.2 0 o rfl)) (ih (R := fun i => R (i + 1)) ⟨by have := h.1; simpa using this, fun i o' hi => h.2 (i + 1) o' hi⟩ fun i x o hx r => m (i + 1) x o hx r)
/-- the names that the comprehension sets are of no use before -/
noncomputable def Unk (vs : List Nat) (G : Gam) : Prop := ∀ i e, i ∈ vs → G[i]? = some e → e = .un
noncomputable def LcI (K : Fg) (cs : Cs) (W : WX) (g : TG) (tt : TT) (te : TE) (vs : List Nat) (G : Gam) (χ : Own → Prop) (ds : List PyData) : Prop :=
  ds.length ≤ 16000000 ∧ Unk vs G ∧ ∃ R : Nat → Option PyData → Prop, (∀ i x, ds[i]? = some x → GC K g vs G x (fun Gt => TW K cs W tt Gt (fun b => Cnd b (EW K cs W te Gt (fun y => R i (some y)) noX) (R i none)) noX)) ∧ ∀ os, Each R ds.length os → χ (ol (opts os))
theorem ef_lc (h : IW K cs W wi G (LcI K cs W g tt te vs G χ) ε) : EF K cs W (tLc wi g tt te vs) G χ ε := fun Wd B ad H0 H σ S Q q x =>
  h Wd B ad H0 H σ S _ (fun ds ⟨hz, hu, R, hs, hd⟩ J H1 S1 e1 ok Dl hD => by
    have hgu : ∀ i c, i ∈ vs → G[i]? ≠ some (.ow c) := fun i c hi g => by cases hu i _ hi g
    obtain ⟨L0, el0⟩ := S1.lend (o := .lst []) hD
    have fr := S1.fresh hD
    refine ⟨fun i m H' => m = ds.length - i ∧ i ≤ ds.length ∧ Sta K (fun a => Wd a ∨ a = Dl) B ad H0 H' σ G ∧ Ex (less H1 (Zs Wd B ad G)) (less H' (Zs (fun a => Wd a ∨ a = Dl) B ad G)) ∧ Xb B H1 H' ∧
      ∃ os acc, Each R i os ∧ H' Dl = some (.lst acc) ∧ DpAll K (less H' (Zs (fun a => Wd a ∨ a = Dl) B ad G)) acc (opts os), ⟨ds.length, rfl, Nat.zero_le _, L0, by rw [el0]; exact Ex.refl _, .of (Ex.new hD), [], [], each_nil, upd_same, .nil⟩, ?_⟩
    rintro i m H' ⟨rfl, hi, S', e', xb, os, acc, ha2, ha, hda⟩
    obtain ⟨k1, k2, k3⟩ := ok H' (Zs (fun a => Wd a ∨ a = Dl) B ad G) S'.there e' i
    by_cases hlt : i < ds.length
    · have hx : ds[i]? = some ds[i] := List.getElem?_eq_getElem hlt
      refine .inr ⟨k1 _ hx, fun H3 => Sta K (fun a => Wd a ∨ a = Dl) B ad H0 H3 σ G ∧ Ex (less H1 (Zs Wd B ad G)) (less H3 (Zs (fun a => Wd a ∨ a = Dl) B ad G)) ∧ Xb B H1 H3 ∧
        ∃ os acc, Each R (i + 1) os ∧ H3 Dl = some (.lst acc) ∧ DpAll K (less H3 (Zs (fun a => Wd a ∨ a = Dl) B ad G)) acc (opts os), fun H3 h3 => ⟨ds.length - (i + 1), by omega, rfl, hlt, h3⟩, fun v H'' hyl => ?_⟩
      obtain ⟨ex, dx⟩ := k3 v H'' hyl
      have S2 := (S'.ext ex).slots (σ' := wipe σ vs) (G' := G) (vs := vs) rfl (fun _ _ => rfl) hu hgu wipe_wipe.symm
      refine hs i _ hx _ B ad H0 H'' _ v S2 (dx _ hx) _ fun Gt σ2 hte hl ho hw S3 e3 ew => ⟨by rw [ew, wipe_wipe], ?_⟩
      have own : ∀ (i : Nat) (c : Own), Gt[i]? = some (En.ow c) ↔ G[i]? = some (En.ow c) := fun i c => by
        by_cases hi : i ∈ vs
        · exact ⟨fun g => hw i c hi g, fun g => absurd g (hgu i c hi)⟩
        · rw [ho i hi]
      have eZ : Zs (fun a => Wd a ∨ a = Dl) B ad Gt = Zs (fun a => Wd a ∨ a = Dl) B ad G := zs_same own
      have back : ∀ {H5 : Hp}, Sta K (fun a => Wd a ∨ a = Dl) B ad H0 H5 σ2 Gt → Sta K (fun a => Wd a ∨ a = Dl) B ad H0 H5 σ G := fun {H5} S5 =>
        S5.slots (G' := G) (vs := vs) hl.symm (fun i hi => (ho i hi).symm) hu (fun i c hi g => hgu i c hi (hw i c hi g)) (by rw [ew, wipe_wipe])
      have hB : ¬ InB B Dl := fr.2.1
      have ha3 : H'' Dl = some (.lst acc) := ex _ _ ha
      have al : acc.length < sizeLine := by
        have h1 := dpa_len hda
        have h2 := opts_len os
        have h3 := ha2.1
        exact Nat.lt_of_lt_of_le (show acc.length < 16777216 by omega) (by decide)
      refine hte _ B ad H0 H'' σ2 S3 _ (fun b p H3 S4 e4 => ?_) xp_no
      have e4' : Ex (less H'' (Zs (fun a => Wd a ∨ a = Dl) B ad G)) (less H3 (Zs (fun a => Wd a ∨ a = Dl) B ad G)) := by
        have := Xb.lz (W := fun a => Wd a ∨ a = Dl) (ad := ad) (G := G) e4
        exact this
      have e5 : Ex (less H' (Zs (fun a => Wd a ∨ a = Dl) B ad G)) (less H3 (Zs (fun a => Wd a ∨ a = Dl) B ad G)) := (less_mono ex).trans e4'
      cases b with
      | false =>
        refine iteF ⟨back S4, e'.trans e5, (xb.trans (.of ex)).trans e4, os ++ [none], acc, ?_, e4 _ _ ha3 hB, ?_⟩
        · exact ha2.snoc (p.2 rfl)
        · rw [opts_snoc]
          show DpAll K _ acc (_ ++ [])
          rw [List.append_nil]
          exact dpa_mono e5 hda
      | true =>
        refine iteT ?_
        refine p.1 rfl _ B ad H0 H3 σ2 S4 _ (fun y py w H4 S5 e6 dw => ?_) xp_no
        rw [eZ] at dw
        have S6 := back S5
        obtain ⟨S7, el7⟩ := S6.foreign (o := .lst (acc ++ [w])) (p := Dl) (.inr rfl) fr.1 hB
        have e6' := Xb.lz (W := fun a => Wd a ∨ a = Dl) (ad := ad) (G := G) e6
        refine ⟨acc, e6 _ _ (e4 _ _ ha3 hB) hB, al, S7, ?_, ?_, os ++ [some y], acc ++ [w], ?_, upd_same, ?_⟩
        · rw [el7]
          exact e'.trans (e5.trans e6')
        · intro a o g n
          have na : a ≠ Dl := ne_of_none g hD
          rw [upd_ne na]
          exact ((((xb.trans (.of ex)).trans e4).trans e6) a o g n)
        · exact ha2.snoc py
        · rw [el7, opts_snoc]
          exact dpa_app (dpa_mono (e5.trans e6') hda) (.cons dw .nil)
    · have en : i = ds.length := by omega
      subst en
      obtain ⟨S5, e5⟩ := S'.back
      obtain ⟨S6, x6, n6, l6⟩ := fl_go S1 xb S'.bag (fun p hp => (S'.tab p hp).mono (less_sub fun b z => z.elim (fun z => z.elim (fun z => .inl (.inl z)) .inr) fun z => .inl (.inr z)) rfl) hD ha
      refine .inl ⟨k2 (Nat.le_refl _), ?_⟩
      have k := q _ (hd os ha2) Dl acc _ S6 (e1.trans x6) n6 (by rw [l6, ← zs_lend]; exact hda)
      have k2 : Q (.ref Dl) (upd (less H' fun b => b = Dl) Dl (.lst acc)) := k
      rw [fl_upd ha] at k2
      exact k2) x
theorem ew_lc (h : IW K cs W wi G (LcI K cs W g tt te vs G (fun c => ∃ xs, c = ol xs ∧ φ (.list xs))) ε) : EW K cs W (tLc wi g tt te vs) G φ ε := ew_ef (ef_lc h)
theorem opts_map {β : Type} {f : β → PyData} : ∀ {xs : List β} {os : List (Option PyData)}, All2 (fun x o => o = some (f x)) xs os → opts os = xs.map f
  | _, _, .nil => rfl
  | x :: xs, _, .cons a t => by
    rw [a]
    show f x :: opts _ = _
    rw [opts_map t]; rfl
variable {β : Type} {xs : List β} {f : β → PyData}
theorem map_at {i : Nat} {x : PyData} (h : (xs.map f)[i]? = some x) : ∃ b, xs[i]? = some b ∧ f b = x ∧ b ∈ xs := by
  rw [List.getElem?_map] at h
  cases hb : xs[i]? with
  | none => rw [hb] at h; cases h
  | some b => rw [hb] at h; exact ⟨b, rfl, Option.some.inj h, List.mem_of_getElem? hb⟩
theorem gc_mono {x : PyData} {γ γ' : Gam → Prop} (h : GC K g vs G x γ) (m : ∀ G', γ G' → γ' G') : GC K g vs G x γ' := fun Wd B ad H0 H σ v S d Q q => h Wd B ad H0 H σ v S d Q fun G' σ' k => q G' σ' (m G' k)
/-- [.. for x in xs if ..], each turn by a relation -/
theorem lcR0 (R : β → Option PyData → Prop) (hz : xs.length ≤ 16000000) (hu : Unk vs G) (hs : ∀ x, x ∈ xs → GC K g vs G (f x) (fun Gt => TW K cs W tt Gt (fun b => Cnd b (EW K cs W te Gt (fun y => R x (some y)) noX) (R x none)) noX)) (p : ∀ os, All2 R xs os → χ (ol (opts os))) : LcI K cs W g tt te vs G χ (xs.map f) := by
  refine ⟨by rw [List.length_map]; exact hz, hu, fun i o => ∃ b, xs[i]? = some b ∧ R b o, fun i x hx => ?_, fun os ha => ?_⟩
  · obtain ⟨b, hb, rfl, hm⟩ := map_at hx
    exact gc_mono (hs b hm) fun Gt k => tw_mono k fun c q => ⟨fun hc => ew_mono (q.1 hc) fun y r => ⟨b, hb, r⟩, fun hc => ⟨b, hb, q.2 hc⟩⟩
  · rw [List.length_map] at ha
    exact p os (ha.all2 fun i x o hx ⟨b, hb, r⟩ => by rw [hx] at hb; cases hb; exact r)
/-- [h x for x in xs] -/
theorem lcM (h : β → PyData) (hz : xs.length ≤ 16000000) (hu : Unk vs G) (hs : ∀ x, x ∈ xs → GC K g vs G (f x) (fun Gt => EW K cs W te Gt (fun y => y = h x) noX)) (p : χ (ol (xs.map h))) : LcI K cs W g tYes te vs G χ (xs.map f) :=
  lcR0 (fun x o => o = some (h x)) hz hu (fun x hx => gc_mono (hs x hx) fun Gt k => tw_yes (cnd_t (ew_mono k fun y e => by rw [e]))) fun os ha => by rw [opts_map ha]; exact p
/-- [.. for x in xs], each by a relation (draws) -/
theorem lcR (R : β → PyData → Prop) (hz : xs.length ≤ 16000000) (hu : Unk vs G) (hs : ∀ x, x ∈ xs → GC K g vs G (f x) (fun Gt => EW K cs W te Gt (fun y => R x y) noX)) (p : ∀ ys, All2 R xs ys → χ (ol ys)) : LcI K cs W g tYes te vs G χ (xs.map f) :=
  lcR0 (fun x o => ∃ y, o = some y ∧ R x y) hz hu (fun x hx => gc_mono (hs x hx) fun Gt k => tw_yes (cnd_t (ew_mono k fun y r => ⟨y, rfl, r⟩))) fun os ha => by
    obtain ⟨ys, e, h2⟩ := ha.exists_map
    rw [e]
    have : opts (ys.map some) = ys := by
      unfold opts
      rw [List.filterMap_map]
      show ys.filterMap some = ys
      exact List.filterMap_some
    rw [this]
    exact p ys h2
/-- [.. for x in xs], each drawn -/
theorem lcD {δ : Type} (gd : δ → PyData) (P : δ → Prop) (hz : xs.length ≤ 16000000) (hu : Unk vs G) (hs : ∀ x, x ∈ xs → GC K g vs G (f x) (fun Gt => EW K cs W te Gt (fun y => ∃ d, y = gd d ∧ P d) noX)) (p : ∀ ds : List δ, ds.length = xs.length → (∀ d ∈ ds, P d) → χ (ol (ds.map gd))) : LcI K cs W g tYes te vs G χ (xs.map f) :=
  lcR (fun _ y => ∃ d, y = gd d ∧ P d) hz hu hs fun ys ha => by
    obtain ⟨ds, e, h2⟩ := ha.exists_map
    rw [e]
    exact p ds h2.len.symm fun d hd => by obtain ⟨x, _, h⟩ := h2.mem_r d hd; exact h
end
end U.N

end
section
namespace U.N
open PySem PyProof.Rows L2 Evl
section
variable {K : Fg} {cs : Cs} {W : WX} {G G' G1 G2 : Gam} {ta tb tc te : TE} {φ : PyData → Prop} {ε : Xw → Prop} {Φ Ψ : Out → Prop}
variable {Wd : Addr → Prop} {B : Bt} {ad : Nat → Addr} {H0 H H1 H2 : Hp} {σ σ' : St}
/-! ### raising -/
/-! ### try .. except C as why -/
end
/-! ### several clauses -/
section
variable {K : Fg} {cs : Cs} {W : WX} {G : Gam} {Φ : Out → Prop}
end
/-! ### defs -/
noncomputable def rts0 (A : Rs → Prop) : Out → Prop
  | .rt x => A (.ok x)
  | .rl c => A (.fl c)
  | .nx _ => A (.ok .none)
  | _ => False
noncomputable def frame (n : Nat) (ds : List PyData) : Gam := ds.map .d ++ List.replicate (n - ds.length) .un
section
variable {Pg : Program} {w : World} {K : Fg} {mg : Str → Option Value} {base : Heap} {cs : Cs}
theorem frame_get {n i : Nat} {ds : List PyData} {e : En} (h : (frame n ds)[i]? = some e) : (∃ d, ds[i]? = some d ∧ e = .d d) ∨ (ds.length ≤ i ∧ e = .un) := qt_of (by simp (disch := with_unfolding_all
  unfold frame at h
  by_cases hi : i < ds.length
  · rw [List.getElem?_append_left (by rw [List.length_map]; exact hi), List.getElem?_map, List.getElem?_eq_getElem hi] at h
    exact .inl ⟨ds[i], List.getElem?_eq_getElem hi, (Option.some.inj h).symm⟩
  · have hi : ds.length ≤ i := by omega
    rw [List.getElem?_append_right (by rw [List.length_map]; exact hi)] at h
    exact .inr ⟨hi, (List.mem_replicate.mp (List.mem_of_getElem? h)).2⟩
  ) only [↓qt_eq])
theorem frame_len {n : Nat} {ds : List PyData} : (frame n ds).length = ds.length + (n - ds.length) := by
  unfold frame
  rw [List.length_append, List.length_map, List.length_replicate]
theorem bag_ok0 : Bag.ok ⟨[], 0, 0⟩ := ⟨by simp, by decide, by decide⟩
/-- the state at a def's entry -/
theorem sta0 {N : List Str} {Wd : Addr → Prop} {H : Hp} {vs : List V} {ds : List PyData} (hW : ∀ a, Wd a → ∃ o, H a = some o) (hd : DpAll K (less H Wd) vs ds) : Sta K Wd noB (fun _ => 0) H H (L2.start N vs) (frame N.length ds) := qt_of (by simp (disch := with_unfolding_all
  have no : ∀ (i : Nat) (c : Own), (frame N.length ds)[i]? ≠ some (En.ow c) := fun i c h => by
    rcases frame_get h with ⟨d, _, e⟩ | ⟨_, e⟩ <;> cases e
  have zz : ∀ a, Zs Wd noB (fun _ => 0) (frame N.length ds) a → Wd a := by
    rintro a (z | ⟨i, c, g, _⟩ | ⟨b, c, z, _⟩ | ⟨p, hp, _⟩)
    · exact z
    · exact absurd g (no i c)
    · cases z
    · cases hp
  refine ⟨?_, fun i e h => ?_, fun i j c c' g => absurd g (no i c), fun i c g => absurd g (no i c), fun a o h _ => h, ⟨⟨_, bag_ok0, trivial⟩, fun p hp => nomatch hp⟩, hW, fun p hp => nomatch hp⟩
  · rw [start_len, dpa_len hd, frame_len]
  · rcases frame_get h with ⟨d, hi, rfl⟩ | ⟨hi, rfl⟩
    · obtain ⟨v, hv, dv⟩ := dpa_get hd hi
      exact ⟨some v, start_get hv, v, rfl, dp_mono (less_sub zz) dv⟩
    · have il : i < (L2.start N vs).length := by
        rw [start_len, dpa_len hd]
        have := (List.getElem?_eq_some_iff.mp h).1
        rw [frame_len] at this
        exact this
      exact ⟨(L2.start N vs)[i], List.getElem?_eq_getElem il, trivial⟩
  ) only [↓qt_eq])
theorem inb_none {a : Addr} : ¬ InB noB a := fun z => by
  rcases z with ⟨_, _, z, _⟩ | ⟨p, hp, _⟩
  · cases z
  · cases hp
theorem xb_none {H H' : Hp} (h : Xb noB H H') : Ex H H' := fun a o g => h a o g inb_none
theorem sz_none {Wd : Addr → Prop} {H : Hp} : (less H fun a => Wd a ∨ InB noB a) = less H Wd := congrArg (less H) (funext fun a => propext ⟨fun z => z.elim id fun z => absurd z inb_none, Or.inl⟩)
theorem run0 {N : List Str} {Wd : Addr → Prop} {H : Hp} {vs : List V} {ds : List PyData} {A : Rs → Prop} {t : TS} {Q : VK} (hW : ∀ a, Wd a → ∃ o, H a = some o) (hd : DpAll K (less H Wd) vs ds) (h : SW K cs W0 t (frame N.length ds) (rts0 A)) (q : okRs H K Wd Q A) :
    t { nx := fun _ H' => Q .non H', rt := Q } (L2.start N vs) H := qt_of (by simp (disch := with_unfolding_all
  refine h Wd noB (fun _ => 0) H H _ _ (sta0 hW hd) fun o p => ?_
  cases o with
  | rt x => exact fun v H' e _ _ d => q.1 x p v H' (xb_none e) (by rw [sz_none] at d; exact d)
  | rl c => exact fun a us H' e _ _ hn ho d => q.2 c p a us H' (xb_none e) hn ho (dpa_mono (less_sub fun b z => by rcases z with z | z; exact .inl (.inl z); exact .inr z) d)
  | nx G => exact fun ad H' σ S _ => q.1 _ p _ H' (xb_none fun a o h n => S.base a o h n) .non
  | bk G => exact p.elim
  | ct G => exact p.elim
  | ex e G => exact p.elim
  ) only [↓qt_eq])
/-- a def that never raises -/
theorem okW {x qual : Str} {st : Stmt} {f : Addr} {fd : FuncData} {N ps : List Str} {k : Nat} {P : Pr} (cs : Cs) (F : Fun K x qual st f fd) (S : FnScope N ps (defScope st)) (hl : ∀ ds A, P ds A → ds.length = ps.length)
    (hb : ∀ ds A, P ds A → ∀ (cdv : Value) (Ar : Around) (outer : List Env) (sh : Shared) (H : Hp) (E : XK), Room k (Ar.deeper (envOfC qual (defScope st) sh.heap.objs.size f cdv)) →
      ∃ t, PSs (cxOf CX0 Pg w K mg base N qual (defScope st) f cdv Ar outer sh H E).nox (defBody st) t ∧ SW K cs W0 t (frame N.length ds) (rts0 A)) : FnOk Pg w K mg base CX0 (k + 1) f fd ps (spW0 K P) := qt_of (by simp (disch := with_unfolding_all
  refine F.ok S (fun vs H Q E h => ?_) (fun cdv Ar outer sh H vs Q E hr h => ?_)
  · obtain ⟨Wd, ds, A, _, hd, hp, _⟩ := h
    rw [dpa_len hd]
    exact hl ds A hp
  · obtain ⟨Wd, ds, A, hW, hd, hp, q⟩ := h
    obtain ⟨t, ht, g⟩ := hb ds A hp cdv Ar outer sh H E hr
    exact ⟨t, ht, run0 hW hd g q⟩
  ) only [↓qt_eq])
theorem staB {N : List Str} {Wd : Addr → Prop} {H : Hp} {b c : Addr} {vs : List V} {ds : List PyData} (hW : ∀ a, Wd a → ∃ o, H a = some o) (hB : BagOk H (bgB b c)) (hd : DpAll K (less H fun a => Wd a ∨ InB (bgB b c) a) vs ds) :
    Sta K Wd (bgB b c) (fun _ => 0) H H (L2.start N (.ref b :: vs)) (.bag :: frame (N.length - 1) ds) := qt_of (by simp (disch := with_unfolding_all
  have no : ∀ (i : Nat) (l : Own), (En.bag :: frame (N.length - 1) ds)[i]? ≠ some (En.ow l) := fun i l h => by
    cases i with
    | zero => cases h
    | succ i => rcases frame_get h with ⟨d, _, e⟩ | ⟨_, e⟩ <;> cases e
  have zz : ∀ a, Zs Wd (bgB b c) (fun _ => 0) (En.bag :: frame (N.length - 1) ds) a → Wd a ∨ InB (bgB b c) a := by
    rintro a (z | ⟨i, l, g, _⟩ | z)
    · exact .inl z
    · exact absurd g (no i l)
    · exact .inr z
  have ln : (L2.start N (.ref b :: vs)).length = (En.bag :: frame (N.length - 1) ds).length := by
    rw [start_len, List.length_cons, List.length_cons, dpa_len hd, frame_len]
    omega
  refine ⟨ln, fun i e h => ?_, fun i j c c' g => absurd g (no i c), fun i c g => absurd g (no i c), fun a o h _ => h, hB, hW, fun p hp => nomatch hp⟩
  cases i with
  | zero =>
    cases h
    exact ⟨some (.ref b), rfl, b, c, rfl, rfl⟩
  | succ i =>
    rcases frame_get h with ⟨d, hi, rfl⟩ | ⟨hi, rfl⟩
    · obtain ⟨v, hv, dv⟩ := dpa_get hd hi
      exact ⟨some v, start_get (show (V.ref b :: vs)[i + 1]? = some v from hv), v, rfl, dp_mono (less_sub zz) dv⟩
    · have il : i + 1 < (L2.start N (.ref b :: vs)).length := by
        rw [ln]; exact (List.getElem?_eq_some_iff.mp h).1
      exact ⟨_, List.getElem?_eq_getElem il, trivial⟩
  ) only [↓qt_eq])
/-- a def that draws -/
theorem okWB {x qual : Str} {st : Stmt} {f : Addr} {fd : FuncData} {N ps : List Str} {k : Nat} {P : Pr} (cs : Cs) (F : Fun K x qual st f fd) (S : FnScope N ps (defScope st)) (hl : ∀ ds A, P ds A → ds.length + 1 = ps.length)
    (hb : ∀ ds A, P ds A → ∀ (cdv : Value) (Ar : Around) (outer : List Env) (sh : Shared) (H : Hp) (E : XK), Room k (Ar.deeper (envOfC qual (defScope st) sh.heap.objs.size f cdv)) →
      ∃ t, PSs (cxOf CX0 Pg w K mg base N qual (defScope st) f cdv Ar outer sh H E).nox (defBody st) t ∧ SW K cs W0 t (.bag :: frame (N.length - 1) ds) (rts0 A)) : FnOk Pg w K mg base CX0 (k + 1) f fd ps (spWB K P) := qt_of (by simp (disch := with_unfolding_all
  refine F.ok S (fun vs H Q E h => ?_) (fun cdv Ar outer sh H vs Q E hr h => ?_)
  · obtain ⟨Wd, b, c, us, ds, A, _, rfl, _, hd, hp, _⟩ := h
    rw [List.length_cons, dpa_len hd]
    exact hl ds A hp
  · obtain ⟨Wd, b, c, us, ds, A, hW, rfl, hB, hd, hp, q1, q2⟩ := h
    obtain ⟨t, ht, g⟩ := hb ds A hp cdv Ar outer sh H E hr
    refine ⟨t, ht, g Wd (bgB b c) (fun _ => 0) H H _ _ (staB hW hB hd) fun o p => ?_⟩
    cases o with
    | rt x => exact fun v H' e hb _ d => q1 x p v H' e hb d
    | rl l => exact fun a us H' e hb _ hn ho d => q2 l p a us H' e hb hn ho d
    | nx G => exact fun ad H' σ S _ => q1 _ p _ H' (fun a o h n => S.base a o h n) S.bag .non
    | bk G => exact p.elim
    | ct G => exact p.elim
    | ex e G => exact p.elim
  ) only [↓qt_eq])
theorem bag0_okN {ns : List Int} (h : ns.length ≤ 63) : (bag0 ns).ok := ⟨h, by show (0 : Int) ≤ 20011; decide, by show (20011 : Int) < 2147483647; decide⟩
/-- the law itself -/
theorem okLawW {x qual : Str} {st : Stmt} {f : Addr} {fd : FuncData} {N : List Str} {a : Str} {k j : Nat} (cs : Cs) (F : Fun K x qual st f fd) (S : FnScope N [a] (defScope st)) (hj : j = 1) (hN : 2 ≤ N.length)
    (hb : ∀ (ns : List Int), ns.length ≤ 63 → ∀ (cdv : Value) (A : Around) (outer : List Env) (sh : Shared) (H : Hp) (E : XK), Room k (A.deeper (envOfC qual (defScope st) sh.heap.objs.size f cdv)) →
      ∃ t, PSs (cxOf CX0 Pg w K mg base N qual (defScope st) f cdv A outer sh H E).nox (defBody st) (tSeq (tAsg (tCall (spBag K) [] E0 (tCons (tVar 0) tNil)) (gName j)) t) ∧ SW K cs W0 t (.d (.list (ns.map PyData.int)) :: .bag :: List.replicate (N.length - 2) .un) (fun o => o = .rt (.bool true))) : FnOk Pg w K mg base CX0 (k + 1) f fd [a] (spP K PLaw) := qt_of (by simp (disch := with_unfolding_all
  subst hj
  refine F.ok S (fun vs H Q E h => ?_) (fun cdv A outer sh H vs Q E hr h => ?_)
  · obtain ⟨W, ds, r, _, hd, ⟨ns, rfl, _⟩, _⟩ := h
    exact dpa_len hd
  · obtain ⟨W, ds, r, hW, hd, ⟨ns, rfl, hl, rfl⟩, q⟩ := h
    obtain ⟨t, ht, g⟩ := hb ns hl cdv A outer sh H E hr
    obtain ⟨v, rfl, dv⟩ := dp1 hd
    obtain ⟨N0, N1, N', rfl⟩ : ∃ a b r, N = a :: b :: r := by
      match N, hN with
      | a :: b :: r, _ => exact ⟨a, b, r, rfl⟩
    refine ⟨_, ht, ?_⟩
    refine ⟨v, rfl, W, ns, hW, hd, hl, fun b c H' e fb fc hB => ?_⟩
    have nb : ∀ a o, H a = some o → ¬ InB (bgB b c) a := by
      rintro a o h (⟨b', c', e, z⟩ | ⟨p, hp, _⟩)
      rotate_left
      · cases hp
      cases e
      rcases z with rfl | rfl
      · rw [fb] at h; cases h
      · rw [fc] at h; cases h
    have no : ∀ (i : Nat) (l : Own), (En.d (.list (ns.map PyData.int)) :: En.bag :: List.replicate N'.length En.un)[i]? ≠ some (En.ow l) := fun i l h => by
      match i, h with
      | 0, h => cases h
      | 1, h => cases h
      | i + 2, h => cases (List.mem_replicate.mp (List.mem_of_getElem? h)).2
    have hW' : ∀ a, W a → ∃ o, H' a = some o := fun a z => (hW a z).elim fun o q => ⟨o, e a o q⟩
    have S0 : Sta K W (bgB b c) (fun _ => 0) H H' ((L2.start (N0 :: N1 :: N') [v]).set 1 (some (.ref b))) (En.d (.list (ns.map PyData.int)) :: En.bag :: List.replicate N'.length En.un) := by
      refine ⟨?_, fun i en h => ?_, fun i j c c' g => absurd g (no i c), fun i c g => absurd g (no i c), fun a o h _ => e a o h, ⟨⟨_, bag0_okN hl, hB⟩, fun p hp => nomatch hp⟩, hW', fun p hp => nomatch hp⟩
      · rw [List.length_set, start_len]
        simp
        omega
      · match i, h with
        | 0, h =>
          cases h
          refine ⟨some v, rfl, v, rfl, dp_mono ?_ dv⟩
          intro a o q
          obtain ⟨q1, q2⟩ := less_some q
          refine less_of ?_ (e a o q2)
          rintro (z | ⟨i, l, g, _⟩ | z)
          · exact q1 z
          · exact no i l g
          · exact nb a o q2 z
        | 1, h =>
          cases h
          exact ⟨some (.ref b), rfl, b, c, rfl, rfl⟩
        | i + 2, h =>
          have en := (List.mem_replicate.mp (List.mem_of_getElem? h)).2
          subst en
          have il : i + 2 < ((L2.start (N0 :: N1 :: N') [v]).set 1 (some (.ref b))).length := by
            have := (List.getElem?_eq_some_iff.mp h).1
            rw [List.length_set, start_len]
            simp at this ⊢
            omega
          exact ⟨_, List.getElem?_eq_getElem il, trivial⟩
    refine g W (bgB b c) (fun _ => 0) H H' _ _ S0 fun o p => ?_
    subst p
    exact fun v' H2 e2 _ _ d => by
      cases d
      exact q _ H2 (fun a o h => e2 a o h (nb a o h)) (.bl true)
  ) only [↓qt_eq])
end
end U.N

end
section
namespace U.N
open PySem PyProof.Rows L2 Evl
section
variable {K : Fg} {cs : Cs} {W : WX} {G G' G1 G2 : Gam} {ta tb tc td te tf tg : TE} {φ : PyData → Prop} {ε : Xw → Prop} {ι : List PyData → Prop} {χ : Own → Prop} {γ : Gam → Prop} {Φ Ψ : Out → Prop}
variable {Wd : Addr → Prop} {B : Bt} {ad : Nat → Addr} {H0 H H1 H2 : Hp} {σ σ' : St}
/-! ### what a value is -/
section
variable {P : Int → Prop} {Pb : Bool → Prop} {Ps : Str → Prop} {Pl : List PyData → Prop} {i j : Int} {b : Bool} {x y z : PyData} {xs ys : List PyData}
theorem xi_int (p : P i) : ∃ j, PyData.int i = .int j ∧ P j := ⟨_, rfl, p⟩
theorem xi_bool (p : Pb b) : ∃ j, PyData.bool b = .bool j ∧ Pb j := ⟨_, rfl, p⟩
theorem xi_tup (p : Pl xs) : ∃ j, PyData.tuple xs = .tuple j ∧ Pl j := ⟨_, rfl, p⟩
theorem xi_list (p : Pl xs) : ∃ j, PyData.list xs = .list j ∧ Pl j := ⟨_, rfl, p⟩
theorem xi_it (h : itemsOf x = some xs) (p : Pl xs) : ∃ j, itemsOf x = some j ∧ Pl j := ⟨_, h, p⟩
theorem x1_bool (p : Pb b) : ∃ j, [PyData.bool b] = [.bool j] ∧ Pb j := ⟨_, rfl, p⟩
theorem x1_it (h : itemsOf x = some xs) (p : Pl xs) : ∃ (y : PyData) (ys : List PyData), [x] = [y] ∧ itemsOf y = some ys ∧ Pl ys := ⟨_, _, rfl, h, p⟩
theorem x1_rng {P : Int → Prop} (hb : -1000000 ≤ i ∧ i ≤ 1000000) (p : P i) : ∃ n : Int, [PyData.int i] = [.int n] ∧ (-1000000 ≤ n ∧ n ≤ 1000000) ∧ P n := ⟨_, rfl, hb, p⟩
theorem allB_map {α : Type} {f : α → Bool} {l : List α} : AllB [PyData.list (l.map fun a => .bool (f a))] (l.all f) := ⟨l.map f, by rw [List.map_map]; rfl, by rw [List.all_map]; rfl⟩
theorem x_all (h : AllB xs b) (p : Pb b) : ∃ b, AllB xs b ∧ Pb b := ⟨b, h, p⟩
theorem sc_int (p : Pb (decide (i = j))) : ∃ b, scEq (.int i) (.int j) = some b ∧ Pb b := ⟨_, rfl, p⟩
theorem unk1 {G : Gam} {i : Nat} (h : G[i]? = some .un) : Unk [i] G := fun j e hj g => by
  rw [List.mem_singleton.mp hj, h] at g
  exact (Option.some.inj g).symm
theorem unk2 {G : Gam} {i j : Nat} (h : G[i]? = some .un) (h2 : G[j]? = some .un) : Unk [i, j] G := fun k e hk g => by
  rcases List.mem_cons.mp hk with rfl | hk
  · rw [h] at g; exact (Option.some.inj g).symm
  · rw [List.mem_singleton.mp hk, h2] at g; exact (Option.some.inj g).symm
end
/-! ### displays of a known length -/
theorem ew_tup1 (h : EW K cs W ta G (fun a => φ (.tuple [a])) ε) : EW K cs W (tTup (tCons ta tNil)) G φ ε := ew_tup (aw_cons (ew_mono h fun a p => aw_nil ⟨by show 1 ≤ 16000000; decide, p⟩))
theorem ew_tup2 (h : EW K cs W ta G (fun a => EW K cs W tb G (fun b => φ (.tuple [a, b])) ε) ε) : EW K cs W (tTup (tCons ta (tCons tb tNil))) G φ ε := ew_tup (aw_cons (ew_mono h fun a h => aw_cons (ew_mono h fun b p => aw_nil ⟨by show 2 ≤ 16000000; decide, p⟩)))
theorem ef_lst0 (p : χ (ol [])) : EF K cs W (tLst tNil) G χ ε := ef_lst (aw_nil ⟨by show 0 ≤ 16000000; decide, p⟩)
/-! ### calls without defaults -/
section
variable {ta : TA} {P : Pr} {E : XK}
theorem ew_cP {P : List PyData → PyData → Prop} (h : AW K cs W ta G (fun ds => ∃ r, P ds r ∧ φ r) ε) : EW K cs W (tCall (spP K P) [] E ta) G φ ε := ew_callP (des := []) (fun _ => .nil) (aw_mono h fun ds p => by rw [List.append_nil]; exact p)
theorem ew_c0 (h : AW K cs W ta G (fun ds => P ds (rE φ noX)) ε) : EW K cs W (tCall (spW0 K P) [] E ta) G φ ε := ew_call0 (des := []) (fun _ => .nil) (aw_mono h fun ds p => by rw [List.append_nil]; exact p)
theorem ef_c0 (h : AW K cs W ta G (fun ds => P ds (rF χ noX)) ε) : EF K cs W (tCall (spW0 K P) [] E ta) G χ ε := ef_call0 (des := []) (fun _ => .nil) (aw_mono h fun ds p => by rw [List.append_nil]; exact p)
end
theorem rE_ok {x : PyData} (h : φ x) : rE φ ε (.ok x) := h
theorem rF_fl {c : Own} (h : χ c) : rF χ ε (.fl c) := h
/-! ### zip -/
/-! ### stars -/
noncomputable def GsW (K : Fg) (g : TGs) (G : Gam) (xs : List PyData) (γ : Gam → Prop) : Prop :=
  ∀ Wd B ad H0 H σ us, Sta K Wd B ad H0 H σ G → DpAll K (less H (Zs Wd B ad G)) us xs → ∀ Q : St → Hp → Prop,
  (∀ G' ad' H' σ', γ G' → Sta K Wd B ad' H0 H' σ' G' → Ex (less H (Zs Wd B ad G)) (less H' (Zs Wd B ad' G')) → Q σ' H') → g us σ H Q
theorem gsw_nil (h : γ G) : GsW K gNil G [] γ := fun Wd B ad H0 H σ us S d Q q => by
  cases d
  exact ⟨rfl, q _ _ _ _ h S (Ex.refl _)⟩
theorem gsw_cons {g : TG} {gs : TGs} {x : PyData} {xs : List PyData} (h : GW K g G x (fun G' => GsW K gs G' xs γ)) : GsW K (gCons g gs) G (x :: xs) γ := fun Wd B ad H0 H σ us S d Q q => by
  cases d with
  | cons a b =>
    refine ⟨_, _, rfl, h Wd B ad H0 H σ _ S a _ fun G1 ad1 H1 σ1 p S1 e1 => ?_⟩
    exact p Wd B ad1 H0 H1 σ1 _ S1 (dpa_mono e1 b) _ fun G2 ad2 H2 σ2 p S2 e2 => q G2 ad2 H2 σ2 p S2 (e1.trans e2)
theorem gw_tup {n : Nat} {gs : TGs} {xs : List PyData} (hn : xs.length = n) (h : GsW K gs G xs γ) : GW K (gTup K n gs) G (.tuple xs) γ := fun Wd B ad H0 H σ v S d Q q => by
  cases d with
  | tup g t => exact ⟨_, _, rfl, ex_t less_ex g, (dpa_len t).trans hn, h Wd B ad H0 H σ _ S t Q q⟩
/-- for i in range(n) -/
theorem forN {g : TG} {tb : TS} {k : Nat} (I : Nat → Gam → Prop) (h0 : I 0 G) (hs : ∀ i G1, i < k → I i G1 → GW K g G1 (.int i) (fun Gt => SW K cs W tb Gt (lp (I (i + 1)) Φ))) (he : ∀ G1, I k G1 → Φ (.nx G1)) : ForI K cs W g tb G Φ (rngD 0 k) := by
  refine ⟨I, h0, fun i x G1 hx hI => ?_, fun G1 hI => he G1 (by rw [rngD_len] at hI; exact hI)⟩
  have hl := (List.getElem?_eq_some_iff.mp hx).1
  rw [rngD_len] at hl
  rw [rngD_get hl] at hx
  cases hx
  rw [Int.zero_add]
  exact hs i G1 hl hI
section
variable {tz tu tw : TS} {g : TG} {wi : TI} {t : TT} {ti : TIp} {i j : Nat} {ta : TA}
theorem sw_seqA (h : SW K cs W (tAsg te g) G (sq K cs W tz Φ)) : SW K cs W (tSeq (tAsg te g) tz) G Φ := sw_seq h
theorem sw_seqF (h : SW K cs W (tFor wi g tu) G (sq K cs W tz Φ)) : SW K cs W (tSeq (tFor wi g tu) tz) G Φ := sw_seq h
end
theorem sw_cut {tu tz : TS} (J : Gam → Prop) (h : SW K cs W tu G (fun o => ∃ G1, o = .nx G1 ∧ J G1)) (k : ∀ G1, J G1 → SW K cs W tz G1 Φ) : SW K cs W (tSeq tu tz) G Φ := sw_seq (sw_mono h fun o ⟨G1, e, j⟩ => by rw [e]; exact k G1 j)
theorem x_nx {J : Gam → Prop} (h : J G) : ∃ G1, Out.nx G = .nx G1 ∧ J G1 := ⟨G, rfl, h⟩
/-! ### more of lists of one's own -/
theorem sw_clear {i : Nat} {xs : List PyData} (hi : G[i]? = some (.ow (ol xs))) (h : Φ (.nx (G.set i (.ow (ol []))))) : SW K cs W (tDrop (tBM0 K "list" rClear (tVar i))) G Φ := fun Wd B ad H0 H σ D S q => by
  obtain ⟨o, g1, rfl, vs, g3, g4⟩ := S.at_ i _ hi
  have g3 : H (ad i) = some (.lst vs) := g3
  refine ⟨_, g1, Or.inl ⟨rfl, vs, sq_of g3⟩, _, vs, rfl, rfl, g3, ?_⟩
  exact q _ h ad _ σ (S.chg (c' := ol []) hi .nil) (chg_ex hi)
end
end U.N

end
section
namespace U.N
open PySem PyProof.Rows L2 Evl
section
variable {φ : PyData → Prop} {n m : Nat} {p q : Fr}
/-! ### items by literal places -/
section
variable {α : Type} {ψ : α → Prop} {xs : List α} {z : α}
theorem atm {k : Nat} (hk : k ≤ xs.length) (hk0 : 0 < k) (h : xs[xs.length - k]? = some z) : atI xs (-(k : Int)) = some z := by
  unfold atI
  have e : ixN xs.length (-(k : Int)) = some (xs.length - k) := by
    unfold ixN
    split
    · omega
    · split
      · congr 1
        omega
      · omega
  rw [e]
  exact h
end
/-! ### what calls of the first layer's defs give -/
theorem c_pull {k : Int} (h0 : 0 < k) (h1 : k < 1000000000000) (h : ∀ v : Int, 0 ≤ v → v < k → φ (.int v)) (s : Bag) (ok : s.ok) : ∃ r s', P_pull s [.int k] r s' ∧ s'.ok ∧ φ r :=
  ⟨_, _, ⟨k, rfl, h0, h1, rfl, rfl⟩, pullS_ok _ ok, h _ (pullV_range s h0).1 (pullV_range s h0).2⟩
theorem c_farPart (h : ∀ p, Gd 63 p → φ (fr p)) (s : Bag) (ok : s.ok) : ∃ r s', P_farPart s [] r s' ∧ s'.ok ∧ φ r := ⟨_, _, ⟨rfl, rfl, rfl⟩, farPartS_ok ok, h _ (farPartOf_gd s)⟩
theorem c_ladd (hp : Gd n p) (hq : Gd m q) (hl : n + m ≤ 7800) (h : Gd (n + m + 1) (addF p q) → φ (fr (addF p q))) : ∃ r, P_add [fr p, fr q] r ∧ φ r := ⟨_, ⟨n, m, p, q, rfl, hp.sz, hq.sz, hl, rfl⟩, h (hp.add hq)⟩
theorem c_cmp (hp : Gd n p) (hq : Gd m q) (hl : max n m ≤ 1900) (h : φ (.int (cmpF p q))) : ∃ r, P_cmp [fr p, fr q] r ∧ φ r := ⟨_, ⟨p, q, rfl, hp.sz.mono (by omega), hq.sz.mono (by omega), rfl⟩, h⟩
theorem c_like {x y : PyData} (e : x = y) (hy : okD 9 y = true) (h : φ (.bool true)) : ∃ r, P_like 10 [x, y] r ∧ φ r := by
  subst e
  exact ⟨_, ⟨x, rfl, hy, rfl⟩, h⟩
theorem c_spot {n : Int} (h0 : 0 ≤ n) (hl : n ≤ 1000) (h : ∀ ps : List Fr, Gds 10 ps → ps.length = n.toNat → φ (frs ps)) (s : Bag) (ok : s.ok) : ∃ r s', P_spot s [.int n] r s' ∧ s'.ok ∧ φ r := by
  refine ⟨_, _, ⟨n.toNat, by rw [Int.toNat_of_nonneg h0], by omega, rfl, rfl⟩, itB_ok partS_ok ok _, ?_⟩
  unfold spotOf
  rw [drawn_fr]
  exact h _ (drawFr_gd partOf_gd _ _) (drawFr_len _ _ _ _)
end
end U.N


end
section
/-! Spots in order: the common number below, the keys, the order by worth. -/
namespace U
open PySem PyProof.Rows L2 Evl
theorem gi_cop {a b : Int} (h : gI a b = 1) (hb : b ≠ 0) : Nat.Coprime a.natAbs b.natAbs := by
  have h1 : gN a b = 1 := by unfold gI at h; omega
  unfold gN at h1
  have : 0 < Nat.gcd a.natAbs b.natAbs := Nat.gcd_pos_of_pos_right _ (by omega)
  unfold Nat.Coprime
  omega
theorem val_eq_iff {p q : Fr} (hp : 0 < p.2) (hq : 0 < q.2) : val p = val q ↔ p.1 * q.2 = q.1 * p.2 := qt_of (by simp (disch := with_unfolding_all
  have h1 := qne (Int.ne_of_gt hp)
  have h2 := qne (Int.ne_of_gt hq)
  unfold val
  constructor
  · intro h
    have : (p.1 : Rat) * q.2 = q.1 * p.2 := by grind
    exact_mod_cast this
  · intro h
    have : (p.1 : Rat) * q.2 = q.1 * p.2 := by exact_mod_cast h
    grind
  ) only [↓qt_eq])
theorem gd_inj {n m : Nat} {p q : Fr} (hp : Gd n p) (hq : Gd m q) (h : val p = val q) : p = q := qt_of (by simp (disch := with_unfolding_all
  have e := (val_eq_iff hp.pos hq.pos).mp h
  have c1 := gi_cop hp.low hp.ne
  have c2 := gi_cop hq.low hq.ne
  have en : p.1.natAbs * q.2.natAbs = q.1.natAbs * p.2.natAbs := by
    have := congrArg Int.natAbs e
    rwa [Int.natAbs_mul, Int.natAbs_mul] at this
  have d1 : p.2.natAbs ∣ q.2.natAbs := by
    have : p.2.natAbs ∣ p.1.natAbs * q.2.natAbs := en ▸ Nat.dvd_mul_left _ _
    exact Nat.Coprime.dvd_of_dvd_mul_left c1.symm this
  have d2 : q.2.natAbs ∣ p.2.natAbs := by
    have : q.2.natAbs ∣ q.1.natAbs * p.2.natAbs := en ▸ Nat.dvd_mul_left _ _
    exact Nat.Coprime.dvd_of_dvd_mul_left c2.symm this
  have e2 := Nat.dvd_antisymm d1 d2
  have p1 := hp.pos
  have p2 := hq.pos
  have e3 : p.2 = q.2 := by omega
  rw [e3] at e
  have e4 : p.1 = q.1 := Int.eq_of_mul_eq_mul_right (by omega) e
  exact Prod.ext e4 e3
  ) only [↓qt_eq])
/-! ### the common number -/
noncomputable def lcI (a b : Int) : Int := (a * b).fdiv (gI a b)
theorem lcI_spec {a b : Int} (ha : 0 < a) (hb : 0 < b) : 0 < lcI a b ∧ a ∣ lcI a b ∧ b ∣ lcI a b := qt_of (by simp (disch := with_unfolding_all
  have e : gI a b = (Nat.gcd a.natAbs b.natAbs : Int) := by
    unfold gI gN
    have : 0 < Nat.gcd a.natAbs b.natAbs := Nat.gcd_pos_of_pos_right _ (by omega)
    omega
  obtain ⟨x, rfl⟩ : ∃ x : Nat, a = x := ⟨a.toNat, by omega⟩
  obtain ⟨y, rfl⟩ : ∃ y : Nat, b = y := ⟨b.toNat, by omega⟩
  have e1 : lcI x y = (Nat.lcm x y : Int) := by
    unfold lcI
    rw [e, Int.fdiv_eq_ediv_of_nonneg _ (Int.natCast_nonneg _)]
    show ((x : Int) * y) / ((Nat.gcd x y : Nat) : Int) = _
    unfold Nat.lcm
    norm_cast
  rw [e1]
  refine ⟨?_, ?_, ?_⟩
  · have := Nat.lcm_pos (m := x) (n := y) (by omega) (by omega)
    omega
  · exact_mod_cast Nat.dvd_lcm_left x y
  · exact_mod_cast Nat.dvd_lcm_right x y
  ) only [↓qt_eq])
theorem lcI_bd {n m : Nat} {a b : Int} (ha : Bd n a) (hb : Bd m b) : Bd (n + m) (lcI a b) := (ha.mul hb).fdiv _
noncomputable def cbS (acc : Int) (s : List Fr) : Int := s.foldl (fun c f => lcI c f.2) acc
noncomputable def cb (acc : Int) (ss : List (List Fr)) : Int := ss.foldl cbS acc
noncomputable abbrev Gds' (a : Nat) (s : List Fr) : Prop := ∀ f ∈ s, Gd a f
theorem cbS_spec {a : Nat} : ∀ {s : List Fr} {n : Nat} {acc : Int}, Gds' a s → 0 < acc → Bd n acc → 0 < cbS acc s ∧ acc ∣ cbS acc s ∧ (∀ f ∈ s, f.2 ∣ cbS acc s) ∧ Bd (n + s.length * a) (cbS acc s)
  | [], n, acc, _, h, b => ⟨h, Int.dvd_refl _, (fun _ h => nomatch h), by simpa [cbS] using b⟩
  | f :: s, n, acc, g, h, b => by
    have gf := g f (List.mem_cons_self ..)
    obtain ⟨l1, l2, l3⟩ := lcI_spec h gf.pos
    obtain ⟨k1, k2, k3, k4⟩ := cbS_spec (s := s) (acc := lcI acc f.2) (fun x hx => g x (List.mem_cons_of_mem _ hx)) l1 (lcI_bd b gf.sz.2)
    refine ⟨k1, Int.dvd_trans l2 k2, fun x hx => ?_, ?_⟩
    · rcases List.mem_cons.mp hx with rfl | hx
      · exact Int.dvd_trans l3 k2
      · exact k3 x hx
    · refine k4.mono ?_
      rw [List.length_cons, Nat.succ_mul]; omega
theorem cb_spec {a r : Nat} : ∀ {ss : List (List Fr)} {n : Nat} {acc : Int}, (∀ s ∈ ss, Gds' a s ∧ s.length ≤ r) → 0 < acc → Bd n acc → 0 < cb acc ss ∧ acc ∣ cb acc ss ∧ (∀ s ∈ ss, ∀ f ∈ s, f.2 ∣ cb acc ss) ∧ Bd (n + ss.length * (r * a)) (cb acc ss)
  | [], n, acc, _, h, b => ⟨h, Int.dvd_refl _, (fun _ h => nomatch h), by simpa [cb] using b⟩
  | s :: ss, n, acc, g, h, b => by
    have gf := g s (List.mem_cons_self ..)
    obtain ⟨l1, l2, l3, l4⟩ := cbS_spec gf.1 h b
    obtain ⟨k1, k2, k3, k4⟩ := cb_spec (ss := ss) (acc := cbS acc s) (fun x hx => g x (List.mem_cons_of_mem _ hx)) l1 l4
    refine ⟨k1, Int.dvd_trans l2 k2, fun x hx f hf => ?_, ?_⟩
    · rcases List.mem_cons.mp hx with rfl | hx
      · exact Int.dvd_trans (l3 f hf) k2
      · exact k3 x hx f hf
    · refine k4.mono ?_
      have := Nat.mul_le_mul_right a gf.2
      rw [List.length_cons, Nat.succ_mul]; omega
/-! ### the keys -/
noncomputable def kyF (c : Int) (f : Fr) : Int := f.1 * c.fdiv f.2
theorem kyF_val {c : Int} {f : Fr} (hp : 0 < f.2) (hd : f.2 ∣ c) : (kyF c f : Rat) = val f * c := qt_of (by simp (disch := with_unfolding_all
  obtain ⟨k, rfl⟩ := hd
  have e : (f.2 * k).fdiv f.2 = k := Int.mul_fdiv_cancel_left k (Int.ne_of_gt hp)
  unfold kyF val
  rw [e, Rat.intCast_mul, Rat.intCast_mul]
  have := qne (Int.ne_of_gt hp)
  grind
  ) only [↓qt_eq])
theorem ky_lt {c : Int} {f g : Fr} (hc : 0 < c) (hf : 0 < f.2) (hg : 0 < g.2) (df : f.2 ∣ c) (dg : g.2 ∣ c) : kyF c f < kyF c g ↔ val f < val g := qt_of (by simp (disch := with_unfolding_all
  have h0 := qpos hc
  have e1 := kyF_val hf df
  have e2 := kyF_val hg dg
  have k : kyF c f < kyF c g ↔ (kyF c f : Rat) < (kyF c g : Rat) := Rat.intCast_lt_intCast.symm
  rw [k, e1, e2]
  exact Rat.mul_lt_mul_right h0
  ) only [↓qt_eq])
theorem ky_eq {c : Int} {f g : Fr} (hc : 0 < c) (hf : 0 < f.2) (hg : 0 < g.2) (df : f.2 ∣ c) (dg : g.2 ∣ c) : kyF c f = kyF c g ↔ val f = val g := qt_of (by simp (disch := with_unfolding_all
  have h0 := qne (Int.ne_of_gt hc)
  have e1 := kyF_val hf df
  have e2 := kyF_val hg dg
  constructor
  · intro h
    have : (kyF c f : Rat) = (kyF c g : Rat) := by rw [h]
    rw [e1, e2] at this
    grind
  · intro h
    have : (kyF c f : Rat) = (kyF c g : Rat) := by rw [e1, e2, h]
    exact_mod_cast this
  ) only [↓qt_eq])
end U

end
section
/-! Dicts of one's own, keys tuples; sorted. -/
namespace U.N
open PySem L2 Evl
noncomputable abbrev Kvs := List (List PyData × PyData)
noncomputable abbrev kk (k : List PyData) : NK := toKd (.tuple k)
noncomputable def flK : Kvs → List PyData
  | [] => []
  | (k, v) :: r => .tuple k :: v :: flK r
noncomputable def entOf : Kvs → List V → List Ent
  | (k, _) :: r, .ref b :: v :: vs => (kk k, b, v) :: entOf r vs
  | _, _ => []
/-- a dict of one's own -/
noncomputable def od (w : World) (ep : Nat) (kvs : Kvs) : Own := ⟨flK kvs, fun a vs => DctO w a ep (entOf kvs vs)⟩
noncomputable def lookK (kvs : Kvs) (k : List PyData) : Option PyData := (kvs.find? fun p => decide (kk p.1 = kk k)).map (·.2)
noncomputable def putK (kvs : Kvs) (k : List PyData) (x : PyData) : Kvs := if (lookK kvs k).isSome then kvs.map (fun p => if kk p.1 = kk k then (p.1, x) else p) else kvs ++ [(k, x)]
section
variable {K : Fg} {M : Hp}
inductive KvR (K : Fg) (M : Hp) : Kvs → List V → List Ent → Prop
  | nil : KvR K M [] [] []
  | cons {k : List PyData} {x : PyData} {b : Addr} {v : V} {kvs : Kvs} {vs : List V} {es : List Ent} : Dp K M (.ref b) (.tuple k) → Dp K M v x → KvR K M kvs vs es → KvR K M ((k, x) :: kvs) (.ref b :: v :: vs) ((kk k, b, v) :: es)
theorem kvr_of : ∀ {kvs : Kvs} {vs : List V}, DpAll K M vs (flK kvs) → KvR K M kvs vs (entOf kvs vs)
  | [], _, h => by cases h; exact .nil
  | (k, x) :: kvs, _, h => by
    cases h with
    | cons a t =>
      cases t with
      | cons b t =>
        have ha := a
        cases a with
        | tup g u => exact .cons ha b (kvr_of t)
theorem KvR.dpa {kvs : Kvs} {vs : List V} {es : List Ent} (h : KvR K M kvs vs es) : DpAll K M vs (flK kvs) ∧ entOf kvs vs = es := by
  induction h with
  | nil => exact ⟨.nil, rfl⟩
  | cons a b t ih => exact ⟨.cons a (.cons b ih.1), by rw [entOf, ih.2]⟩
theorem KvR.keys {kvs : Kvs} {vs : List V} {es : List Ent} (h : KvR K M kvs vs es) : (∀ e ∈ es, KeyW K M e.1 e.2.1) ∧ DpAll K M (es.map fun e => .ref e.2.1) (kvs.map fun p => .tuple p.1) ∧ es.length = kvs.length := qt_of (by simp (disch := with_unfolding_all
  induction h with
  | nil => exact ⟨(fun _ h => nomatch h), .nil, rfl⟩
  | cons a b t ih =>
    refine ⟨fun e he => ?_, .cons a ih.2.1, congrArg (· + 1) ih.2.2⟩
    rcases List.mem_cons.mp he with rfl | he
    · exact ⟨_, a, rfl⟩
    · exact ih.1 e he
  ) only [↓qt_eq])
theorem KvR.find {kvs : Kvs} {vs : List V} {es : List Ent} (h : KvR K M kvs vs es) (k : List PyData) : (lookK kvs k = none ∧ findE es (kk k) = none) ∨ ∃ x v, lookK kvs k = some x ∧ findE es (kk k) = some v ∧ Dp K M v x := qt_of (by simp (disch := with_unfolding_all
  induction h with
  | nil => exact .inl ⟨rfl, rfl⟩
  | @cons k' x b v kvs vs es a d t ih =>
    by_cases e : kk k' = kk k
    · refine .inr ⟨x, v, ?_, ?_, d⟩
      · unfold lookK; rw [List.find?_cons_of_pos (by simpa using e)]; rfl
      · unfold findE; rw [List.find?_cons_of_pos (by simpa using e)]; rfl
    · have e1 : lookK ((k', x) :: kvs) k = lookK kvs k := by unfold lookK; rw [List.find?_cons_of_neg (by simpa using e)]
      have e2 : findE ((kk k', b, v) :: es) (kk k) = findE es (kk k) := by unfold findE; rw [List.find?_cons_of_neg (by simpa using e)]
      rw [e1, e2]; exact ih
  ) only [↓qt_eq])
theorem KvR.mput {kvs : Kvs} {vs : List V} {es : List Ent} (h : KvR K M kvs vs es) {k : List PyData} {v : V} {x : PyData} (dv : Dp K M v x) : ∃ vs', KvR K M (kvs.map (fun p => if kk p.1 = kk k then (p.1, x) else p)) vs' (es.map (fun e => if e.1 = kk k then (e.1, e.2.1, v) else e)) := qt_of (by simp (disch := with_unfolding_all
  induction h with
  | nil => exact ⟨[], .nil⟩
  | @cons k' x' b v' kvs vs es a d t ih =>
    obtain ⟨vs', ih⟩ := ih
    rw [List.map_cons, List.map_cons]
    by_cases e : kk k' = kk k
    · rw [if_pos e, if_pos e]; exact ⟨_, .cons a dv ih⟩
    · rw [if_neg e, if_neg e]; exact ⟨_, .cons a d ih⟩
  ) only [↓qt_eq])
theorem KvR.snoc {kvs : Kvs} {vs : List V} {es : List Ent} (h : KvR K M kvs vs es) {k : List PyData} {b : Addr} {v : V} {x : PyData} (db : Dp K M (.ref b) (.tuple k)) (dv : Dp K M v x) : ∃ vs', KvR K M (kvs ++ [(k, x)]) vs' (es ++ [(kk k, b, v)]) := by
  induction h with
  | nil => exact ⟨_, .cons db dv .nil⟩
  | cons a d t ih => obtain ⟨vs', ih⟩ := ih; exact ⟨_, .cons a d ih⟩
theorem KvR.put {kvs : Kvs} {vs : List V} {es : List Ent} (h : KvR K M kvs vs es) {k : List PyData} {b : Addr} {v : V} {x : PyData} (db : Dp K M (.ref b) (.tuple k)) (dv : Dp K M v x) : ∃ vs', KvR K M (putK kvs k x) vs' (putE es (kk k) b v) := by
  unfold putK putE
  rcases h.find k with ⟨e1, e2⟩ | ⟨x', v', e1, e2, _⟩
  · rw [e1, e2]; exact h.snoc db dv
  · rw [e1, e2]; exact h.mput dv
/-- k may be a key -/
noncomputable def KG (k : List PyData) : Prop := KGood (kk k)
theorem kg_is {H : Hp} {b : Addr} {k : List PyData} (d : Dp K H (.ref b) (.tuple k)) (g : KG k) : KeyIs K H (kk k) b := ⟨_, d, toKd_good g, g.1⟩
theorem dct_hh {w : World} {H : Hp} {Z : Addr → Prop} {a : Addr} {ep : Nat} {kvs : Kvs} {vs : List V} (g : H a = some ((od w ep kvs).obj a vs)) (d : DpAll K (less H Z) vs (od w ep kvs).flat) : DctH K w H a ep (entOf kvs vs) := by
  refine ⟨g, fun e he => ?_⟩
  obtain ⟨x, h1, h2⟩ := (kvr_of d).keys.1 e he
  exact ⟨x, dp_mono less_ex h1, h2⟩
end
section
variable {K : Fg} {cs : Cs} {W : WX} {G G' G1 G2 : Gam} {ta tb tc te : TE} {t u : TT} {φ : PyData → Prop} {ε : Xw → Prop} {ψ : Bool → Prop} {α : List PyData → Prop} {ι : List PyData → Prop} {χ : Own → Prop} {Φ : Out → Prop} {tu : TS}
variable {Wd : Addr → Prop} {B : Bt} {ad : Nat → Addr} {H0 H H1 H2 : Hp} {σ : L2.St} {w : World} {ep : Nat} {kvs : Kvs} {i : Nat}
/-- a dict of one's own, or one that stays -/
noncomputable def IsOd (G : Gam) (i : Nat) (w : World) (ep : Nat) (kvs : Kvs) : Prop := G[i]? = some (.ow (od w ep kvs)) ∨ G[i]? = some (.fz (od w ep kvs))
theorem isod_at (S : Sta K Wd B ad H0 H σ G) (hi : IsOd G i w ep kvs) : ∃ a vs, σ[i]? = some (some (.ref a)) ∧ H a = some ((od w ep kvs).obj a vs) ∧ DpAll K (less H (Zs Wd B ad G)) vs (od w ep kvs).flat := qt_of (by simp (disch := with_unfolding_all
  rcases hi with hi | hi
  · obtain ⟨o, g1, rfl, vs, g3, g4⟩ := S.at_ i _ hi
    exact ⟨_, vs, g1, g3, g4⟩
  · obtain ⟨o, g1, a, vs, rfl, g3, g4⟩ := S.at_ i _ hi
    exact ⟨a, vs, g1, (less_some g3).2, g4⟩
  ) only [↓qt_eq])
theorem isod_same {σ' : L2.St} {H2 : Hp} {a : Addr} {vs : List V} (S : Sta K Wd B ad H0 H σ G) (S2 : Sta K Wd B ad H0 H2 σ G) (hi : IsOd G i w ep kvs) (g : σ[i]? = some (some (.ref a))) : ∃ vs, H2 a = some ((od w ep kvs).obj a vs) ∧ DpAll K (less H2 (Zs Wd B ad G)) vs (od w ep kvs).flat := by
  obtain ⟨a', vs, g1, g2, g3⟩ := isod_at S2 hi
  rw [g1] at g
  cases g
  exact ⟨vs, g2, g3⟩
theorem ew_dx (hi : IsOd G i w ep kvs) (h : EW K cs W tb G (fun y => ∃ k x, y = .tuple k ∧ KG k ∧ lookK kvs k = some x ∧ φ x) ε) : EW K cs W (tOp (rDx K w) (tVar i) tb) G φ ε := fun Wd B ad H0 H σ S Q q x => by
  obtain ⟨a, vs, g1, g2, g3⟩ := isod_at S hi
  refine ⟨_, g1, h Wd B ad H0 H σ S _ (fun y ⟨k, z, e, kg, hz, p⟩ v H2 S2 x2 d2 => ?_) x⟩
  subst e
  obtain ⟨vs, g4, g5⟩ := isod_same (σ' := σ) (vs := vs) S S2 hi g1
  have d2' := d2
  cases d2 with
  | @tup b us _ gb ub =>
    rcases (kvr_of g5).find k with ⟨e1, _⟩ | ⟨x', v', e1, e2, e3⟩
    · rw [hz] at e1; cases e1
    · rw [hz] at e1
      cases e1
      exact ⟨a, b, ep, _, kk k, v', rfl, rfl, dct_hh g4 g5, kg_is (dp_mono less_ex d2') kg, e2, q _ p _ H2 S2 x2 e3⟩
/-! ### sorted -/
theorem srt_dpa {M : Hp} {ps : List (V × PyData)} (h : ∀ p ∈ ps, Dp K M p.1 p.2) : DpAll K M ((srtP ps).map (·.1)) (srtD (ps.map (·.2))) := by
  rw [← srt_map]
  exact zip_dpa fun p hp => h p (List.mem_mergeSort.mp hp)
theorem ef_srt (h : EW K cs W te G (fun x => ∃ xs, x = .list xs ∧ SrtOk xs ∧ χ (ol (srtD xs))) ε) : EF K cs W (tCB (rSrtL K) (tCons te tNil)) G χ ε := fun Wd B ad H0 H σ S Q q x =>
  h Wd B ad H0 H σ S _ (fun y ⟨xs, e, ok, p⟩ v H1 S1 e1 d1 => by
    subst e
    cases d1 with
    | @lst a us _ g t =>
      obtain ⟨ps, k1, k2, k3⟩ := dpa_zip t
      subst k1; subst k2
      exact ⟨a, ps, rfl, ex_l less_ex g, fun p hp => dp_mono less_ex (k3 p hp), ok, fun l hn => q _ p l _ H1 S1 e1 hn (srt_dpa k3)⟩) x
theorem ew_srt (h : EW K cs W te G (fun x => ∃ xs, x = .list xs ∧ SrtOk xs ∧ φ (.list (srtD xs))) ε) : EW K cs W (tCB (rSrtL K) (tCons te tNil)) G φ ε := ew_ef (ef_srt (ew_mono h fun x ⟨xs, e, ok, p⟩ => ⟨xs, e, ok, _, rfl, p⟩))
theorem ef_srtD (hi : IsOd G i w ep kvs) (ok : SrtOk (kvs.map fun q => .tuple q.1)) (p : χ (ol (srtD (kvs.map fun q => .tuple q.1)))) : EF K cs W (tCB (rSrtD K w) (tCons (tVar i) tNil)) G χ ε := fun Wd B ad H0 H σ S Q q x => by
  obtain ⟨a, vs, g1, g2, g3⟩ := isod_at S hi
  obtain ⟨_, kd, _⟩ := (kvr_of g3).keys
  obtain ⟨ps, k1, k2, k3⟩ := dpa_zip kd
  refine ⟨_, g1, a, ep, _, ps, rfl, g2, k1, fun p hp => dp_mono less_ex (k3 p hp), by rw [k2]; exact ok, fun l hn => ?_⟩
  have d := srt_dpa k3
  rw [k2] at d
  exact q _ p l _ H S Xb.refl hn d
theorem ew_srtD (hi : IsOd G i w ep kvs) (ok : SrtOk (kvs.map fun q => .tuple q.1)) (p : φ (.list (srtD (kvs.map fun q => .tuple q.1)))) : EW K cs W (tCB (rSrtD K w) (tCons (tVar i) tNil)) G φ ε := ew_ef (ef_srtD hi ok ⟨_, rfl, p⟩)
end
/-! ### a dict by a comprehension -/
noncomputable def putO (m : Kvs) : Option (List PyData × PyData) → Kvs
  | none => m
  | some (k, z) => putK m k z
noncomputable def putAll (os : List (Option (List PyData × PyData))) : Kvs := os.foldl putO []
theorem putK_len {m : Kvs} {k : List PyData} {z : PyData} : (putK m k z).length ≤ m.length + 1 := by
  unfold putK
  split
  · rw [List.length_map]; omega
  · rw [List.length_append]; exact Nat.le_refl _
theorem putAll_some {os : List (Option (List PyData × PyData))} {k : List PyData} {z : PyData} : putAll (os ++ [some (k, z)]) = putK (putAll os) k z := by unfold putAll; rw [List.foldl_append]; rfl
theorem putAll_none {os : List (Option (List PyData × PyData))} : putAll (os ++ [none]) = putAll os := by unfold putAll; rw [List.foldl_append]; rfl
theorem putAll_len (os : List (Option (List PyData × PyData))) : (putAll os).length ≤ os.length := qt_of (by simp (disch := with_unfolding_all
  have key : ∀ (os : List (Option (List PyData × PyData))) (m : Kvs), (os.foldl putO m).length ≤ m.length + os.length := fun os => by
    induction os with
    | nil => intro m; exact Nat.le_refl _
    | cons o os ih =>
      intro m
      rw [List.foldl_cons, List.length_cons]
      have := ih (putO m o)
      have h2 : (putO m o).length ≤ m.length + 1 := by
        cases o with
        | none => exact Nat.le_succ _
        | some p => exact putK_len
      omega
  have := key os []
  unfold putAll
  simpa using this
  ) only [↓qt_eq])
section
variable {K : Fg} {cs : Cs} {W : WX} {G : Gam} {tk tv : TE} {ε : Xw → Prop} {χ : Own → Prop} {wi : TI} {g : TG} {tt : TT} {vs : List Nat} {w : World}
noncomputable def DcI (K : Fg) (cs : Cs) (W : WX) (w : World) (g : TG) (tt : TT) (tk tv : TE) (vs : List Nat) (G : Gam) (χ : Own → Prop) (ds : List PyData) : Prop :=
  ds.length ≤ 16000000 ∧ Unk vs G ∧ ∃ R : Nat → Option (List PyData × PyData) → Prop, (∀ i x, ds[i]? = some x → GC K g vs G x (fun Gt => TW K cs W tt Gt (fun b => Cnd b (EW K cs W tk Gt (fun y => EW K cs W tv Gt (fun z => ∃ k, y = .tuple k ∧ KG k ∧ R i (some (k, z))) noX) noX) (R i none)) noX)) ∧ ∀ os ep, Each R ds.length os → χ (od w ep (putAll os))
theorem ef_dc (h : IW K cs W wi G (DcI K cs W w g tt tk tv vs G χ) ε) : EF K cs W (tDcd K w wi g tt tk tv vs) G χ ε := fun Wd B ad H0 H σ S Q q x =>
  h Wd B ad H0 H σ S _ (fun ds ⟨hz, hu, R, hs, hd⟩ J H1 S1 e1 ok Dl hD => by
    have hgu : ∀ i c, i ∈ vs → G[i]? ≠ some (.ow c) := fun i c hi g => by cases hu i _ hi g
    obtain ⟨L0, el0⟩ := S1.lend (o := DctO w Dl 0 []) hD
    have fr := S1.fresh hD
    refine ⟨fun i m H' => m = ds.length - i ∧ i ≤ ds.length ∧ Sta K (fun a => Wd a ∨ a = Dl) B ad H0 H' σ G ∧ Ex (less H1 (Zs Wd B ad G)) (less H' (Zs (fun a => Wd a ∨ a = Dl) B ad G)) ∧ Xb B H1 H' ∧
      ∃ os ep acc, Each R i os ∧ H' Dl = some ((od w ep (putAll os)).obj Dl acc) ∧ DpAll K (less H' (Zs (fun a => Wd a ∨ a = Dl) B ad G)) acc (flK (putAll os)), ⟨ds.length, rfl, Nat.zero_le _, L0, by rw [el0]; exact Ex.refl _, .of (Ex.new hD), [], 0, [], each_nil, upd_same, .nil⟩, ?_⟩
    rintro i m H' ⟨rfl, hi, S', e', xb, os, ep, acc, ha2, ha, hda⟩
    obtain ⟨k1, k2, k3⟩ := ok H' (Zs (fun a => Wd a ∨ a = Dl) B ad G) S'.there e' i
    by_cases hlt : i < ds.length
    · have hx : ds[i]? = some ds[i] := List.getElem?_eq_getElem hlt
      refine .inr ⟨k1 _ hx, fun H3 => Sta K (fun a => Wd a ∨ a = Dl) B ad H0 H3 σ G ∧ Ex (less H1 (Zs Wd B ad G)) (less H3 (Zs (fun a => Wd a ∨ a = Dl) B ad G)) ∧ Xb B H1 H3 ∧
        ∃ os ep acc, Each R (i + 1) os ∧ H3 Dl = some ((od w ep (putAll os)).obj Dl acc) ∧ DpAll K (less H3 (Zs (fun a => Wd a ∨ a = Dl) B ad G)) acc (flK (putAll os)), fun H3 h3 => ⟨ds.length - (i + 1), by omega, rfl, hlt, h3⟩, fun v H'' hyl => ?_⟩
      obtain ⟨ex, dx⟩ := k3 v H'' hyl
      have S2 := (S'.ext ex).slots (σ' := wipe σ vs) (G' := G) (vs := vs) rfl (fun _ _ => rfl) hu hgu wipe_wipe.symm
      refine hs i _ hx _ B ad H0 H'' _ v S2 (dx _ hx) _ fun Gt σ2 hte hl ho hw S3 e3 ew => ⟨by rw [ew, wipe_wipe], ?_⟩
      have own : ∀ (i : Nat) (c : Own), Gt[i]? = some (En.ow c) ↔ G[i]? = some (En.ow c) := fun i c => by
        by_cases hi : i ∈ vs
        · exact ⟨fun g => hw i c hi g, fun g => absurd g (hgu i c hi)⟩
        · rw [ho i hi]
      have eZ : Zs (fun a => Wd a ∨ a = Dl) B ad Gt = Zs (fun a => Wd a ∨ a = Dl) B ad G := zs_same own
      have back : ∀ {H5 : Hp}, Sta K (fun a => Wd a ∨ a = Dl) B ad H0 H5 σ2 Gt → Sta K (fun a => Wd a ∨ a = Dl) B ad H0 H5 σ G := fun {H5} S5 =>
        S5.slots (G' := G) (vs := vs) hl.symm (fun i hi => (ho i hi).symm) hu (fun i c hi g => hgu i c hi (hw i c hi g)) (by rw [ew, wipe_wipe])
      have hB : ¬ InB B Dl := fr.2.1
      have ha3 : H'' Dl = some ((od w ep (putAll os)).obj Dl acc) := ex _ _ ha
      have al : (entOf (putAll os) acc).length < sizeLine := by
        have h1 := (kvr_of hda).keys.2.2
        have h2 := putAll_len os
        have h3 := ha2.1
        exact Nat.lt_of_lt_of_le (show (entOf (putAll os) acc).length < 16777216 by omega) (by decide)
      refine hte _ B ad H0 H'' σ2 S3 _ (fun b p H3 S4 e4 => ?_) xp_no
      have e4' : Ex (less H'' (Zs (fun a => Wd a ∨ a = Dl) B ad G)) (less H3 (Zs (fun a => Wd a ∨ a = Dl) B ad G)) := by
        have := Xb.lz (W := fun a => Wd a ∨ a = Dl) (ad := ad) (G := G) e4
        exact this
      have e5 : Ex (less H' (Zs (fun a => Wd a ∨ a = Dl) B ad G)) (less H3 (Zs (fun a => Wd a ∨ a = Dl) B ad G)) := (less_mono ex).trans e4'
      cases b with
      | false =>
        refine iteF ⟨back S4, e'.trans e5, (xb.trans (.of ex)).trans e4, os ++ [none], ep, acc, ?_, ?_, ?_⟩
        · exact ha2.snoc (p.2 rfl)
        · rw [putAll_none]; exact e4 _ _ ha3 hB
        · rw [putAll_none]; exact dpa_mono e5 hda
      | true =>
        refine iteT ?_
        refine p.1 rfl _ B ad H0 H3 σ2 S4 _ (fun y py u H4 S5 e6 du => ?_) xp_no
        refine py _ B ad H0 H4 σ2 S5 _ (fun z ⟨k, ek, kg, pz⟩ u2 H5 S5' e7 du2 => ?_) xp_no
        subst ek
        rw [eZ] at du du2
        have S6 := back S5'
        have e6' := Xb.lz (W := fun a => Wd a ∨ a = Dl) (ad := ad) (G := G) e6
        have e7' := Xb.lz (W := fun a => Wd a ∨ a = Dl) (ad := ad) (G := G) e7
        have hd5 := dpa_mono (e5.trans (e6'.trans e7')) hda
        have g5 : H5 Dl = some ((od w ep (putAll os)).obj Dl acc) := e7 _ _ (e6 _ _ (e4 _ _ ha3 hB) hB) hB
        have dk := dp_mono e7' du
        have dk' := dk
        cases dk with
        | @tup b _ _ gb ub =>
          obtain ⟨acc', kr'⟩ := (kvr_of hd5).put dk' du2
          obtain ⟨da, ee⟩ := kr'.dpa
          refine ⟨b, ep, _, kk k, rfl, dct_hh g5 hd5, kg_is (dp_mono less_ex dk') kg, al, fun ep' => ?_⟩
          obtain ⟨S7, el7⟩ := S6.foreign (o := DctO w Dl ep' (putE (entOf (putAll os) acc) (kk k) b u2)) (p := Dl) (.inr rfl) fr.1 hB
          refine ⟨S7, ?_, ?_, os ++ [some (k, z)], ep', acc', ?_, ?_, ?_⟩
          · rw [el7]
            exact e'.trans (e5.trans (e6'.trans e7'))
          · intro a o g n
            have na : a ≠ Dl := ne_of_none g hD
            rw [upd_ne na]
            exact (((((xb.trans (.of ex)).trans e4).trans e6).trans e7) a o g n)
          · exact ha2.snoc pz
          · rw [upd_same, putAll_some]
            show _ = some (DctO w Dl ep' (entOf _ acc'))
            rw [ee]
          · rw [el7, putAll_some]
            exact da
    · have en : i = ds.length := by omega
      subst en
      obtain ⟨S5, e5⟩ := S'.back
      obtain ⟨S6, x6, n6, l6⟩ := fl_go S1 xb S'.bag (fun p hp => (S'.tab p hp).mono (less_sub fun b z => z.elim (fun z => z.elim (fun z => .inl (.inl z)) .inr) fun z => .inl (.inr z)) rfl) hD ha
      refine .inl ⟨k2 (Nat.le_refl _), ?_⟩
      have k := q _ (hd os ep ha2) Dl acc _ S6 (e1.trans x6) n6 (by rw [l6, ← zs_lend]; exact hda)
      have k2 : Q (.ref Dl) (upd (less H' fun b => b = Dl) Dl ((od w ep (putAll os)).obj Dl acc)) := k
      rw [fl_upd ha] at k2
      exact k2) x
/-- each turn known -/
theorem dcM {β : Type} {xs : List β} {f : β → PyData} (hk : β → List PyData) (hv : β → PyData) (hz : xs.length ≤ 16000000) (hu : Unk vs G) (hs : ∀ x, x ∈ xs → GC K g vs G (f x) (fun Gt => EW K cs W tk Gt (fun y => EW K cs W tv Gt (fun z => y = .tuple (hk x) ∧ KG (hk x) ∧ z = hv x) noX) noX)) (p : ∀ ep, χ (od w ep (putAll (xs.map fun x => some (hk x, hv x))))) : DcI K cs W w g tYes tk tv vs G χ (xs.map f) := by
  refine ⟨by rw [List.length_map]; exact hz, hu, fun i o => ∀ x, xs[i]? = some x → o = some (hk x, hv x), fun i y hy => ?_, fun os ep ha => ?_⟩
  · obtain ⟨x, hx, rfl, hm⟩ := map_at hy
    refine gc_mono (hs x hm) fun Gt h => tw_yes (cnd_t (ew_mono h fun y h => ew_mono h fun z ⟨e1, e2, e3⟩ => ⟨_, e1, e2, fun x' hx' => ?_⟩))
    rw [hx] at hx'
    cases hx'
    rw [e3]
  · have e : os = xs.map fun x => some (hk x, hv x) := by
      obtain ⟨h1, h2⟩ := ha
      rw [List.length_map] at h1
      apply List.ext_getElem?
      intro i
      rcases Nat.lt_or_ge i xs.length with hl | hl
      · rw [List.getElem?_map, List.getElem?_eq_getElem hl, List.getElem?_eq_getElem (by omega : i < os.length)]
        exact congrArg some (h2 i _ (List.getElem?_eq_getElem (by omega)) _ (List.getElem?_eq_getElem hl))
      · rw [List.getElem?_eq_none (by omega), List.getElem?_eq_none (by rw [List.length_map]; exact hl)]
    rw [e]; exact p ep
end
end U.N

end
section
/-! The order of spots; dicts by keys of a type. -/
namespace U
open PySem PyProof.Rows L2 Evl
noncomputable abbrev Spot := List Fr
noncomputable def sLt : Spot → Spot → Prop
  | [], [] => False
  | [], _ :: _ => True
  | _ :: _, [] => False
  | f :: s, g :: t => val f < val g ∨ (val f = val g ∧ sLt s t)
theorem sLt_irr : ∀ s : Spot, ¬ sLt s s
  | [] => id
  | f :: s => fun h => h.elim (Rat.lt_irrefl) fun h => sLt_irr s h.2
theorem sLt_asy : ∀ s t : Spot, sLt s t → ¬ sLt t s
  | [], [] => fun h => h.elim
  | [], _ :: _ => fun _ h => h
  | _ :: _, [] => fun h => h.elim
  | f :: s, g :: t => fun h h' => by
    rcases h with h | ⟨e, h⟩
    · rcases h' with h' | ⟨e', h'⟩
      · exact absurd h' (Rat.not_lt.mpr (Rat.le_of_lt h))
      · rw [e'] at h; exact Rat.lt_irrefl h
    · rcases h' with h' | ⟨e', h'⟩
      · rw [e] at h'; exact Rat.lt_irrefl h'
      · exact sLt_asy s t h h'
/-- a spot whose numbers below divide c -/
structure SpC (c : Int) (s : Spot) : Prop where
  gd : ∃ a, ∀ f ∈ s, Gd a f
  dv : ∀ f ∈ s, f.2 ∣ c
theorem SpC.tl {c : Int} {f : Fr} {s : Spot} (h : SpC c (f :: s)) : SpC c s := ⟨h.gd.imp fun a g x hx => g x (List.mem_cons_of_mem _ hx), fun x hx => h.dv x (List.mem_cons_of_mem _ hx)⟩
theorem SpC.hd {c : Int} {f : Fr} {s : Spot} (h : SpC c (f :: s)) : (∃ a, Gd a f) ∧ f.2 ∣ c := ⟨h.gd.imp fun a g => g f (List.mem_cons_self ..), h.dv f (List.mem_cons_self ..)⟩
noncomputable abbrev ky (c : Int) (s : Spot) : List Int := s.map (kyF c)
theorem ky_slt {c : Int} (hc : 0 < c) : ∀ {s t : Spot}, SpC c s → SpC c t → (ky c s < ky c t ↔ sLt s t)
  | [], [], _, _ => by simp [ky, sLt]
  | [], _ :: _, _, _ => by simp [ky, sLt]
  | _ :: _, [], _, _ => by simp [ky, sLt]
  | f :: s, g :: t, h1, h2 => by
    obtain ⟨⟨a, g1⟩, d1⟩ := h1.hd
    obtain ⟨⟨b, g2⟩, d2⟩ := h2.hd
    show (kyF c f :: ky c s) < (kyF c g :: ky c t) ↔ _
    rw [List.cons_lt_cons_iff, ky_lt hc g1.pos g2.pos d1 d2, ky_eq hc g1.pos g2.pos d1 d2, ky_slt hc h1.tl h2.tl]
    rfl
theorem ky_inj {c : Int} (hc : 0 < c) : ∀ {s t : Spot}, SpC c s → SpC c t → ky c s = ky c t → s = t
  | [], [], _, _, _ => rfl
  | [], _ :: _, _, _, h => by cases h
  | _ :: _, [], _, _, h => by cases h
  | f :: s, g :: t, h1, h2, h => by
    obtain ⟨⟨a, g1⟩, d1⟩ := h1.hd
    obtain ⟨⟨b, g2⟩, d2⟩ := h2.hd
    have h : kyF c f :: ky c s = kyF c g :: ky c t := h
    injection h with e1 e2
    rw [gd_inj g1 g2 ((ky_eq hc g1.pos g2.pos d1 d2).mp e1), ky_inj hc h1.tl h2.tl e2]
/-- in order, each once -/
noncomputable def Rising (ss ys : List Spot) : Prop := ys.Pairwise sLt ∧ ∀ s, s ∈ ys ↔ s ∈ ss
theorem pw_uniq {α : Type} {R : α → α → Prop} (irr : ∀ x, ¬ R x x) (asy : ∀ x y, R x y → ¬ R y x) : ∀ {l m : List α}, l.Pairwise R → m.Pairwise R → (∀ x, x ∈ l ↔ x ∈ m) → l = m
  | [], [], _, _, _ => rfl
  | [], y :: m, _, _, h => absurd ((h y).mpr (List.mem_cons_self ..)) (by simp)
  | x :: l, [], _, _, h => absurd ((h x).mp (List.mem_cons_self ..)) (by simp)
  | x :: l, y :: m, h1, h2, h => by
    rw [List.pairwise_cons] at h1 h2
    have e : x = y := by
      rcases List.mem_cons.mp ((h x).mp (List.mem_cons_self ..)) with e | hx
      · exact e
      · rcases List.mem_cons.mp ((h y).mpr (List.mem_cons_self ..)) with e | hy
        · exact e.symm
        · exact absurd (h2.1 x hx) (asy _ _ (h1.1 y hy))
    subst e
    rw [pw_uniq irr asy h1.2 h2.2 fun z => ⟨fun hz => ?_, fun hz => ?_⟩]
    · rcases List.mem_cons.mp ((h z).mp (List.mem_cons_of_mem _ hz)) with rfl | hz'
      · exact absurd (h1.1 z hz) (irr z)
      · exact hz'
    · rcases List.mem_cons.mp ((h z).mpr (List.mem_cons_of_mem _ hz)) with rfl | hz'
      · exact absurd (h2.1 z hz) (irr z)
      · exact hz'
theorem rising_uniq {ss ys zs : List Spot} (h1 : Rising ss ys) (h2 : Rising ss zs) : ys = zs := pw_uniq sLt_irr sLt_asy h1.1 h2.1 fun s => (h1.2 s).trans (h2.2 s).symm
/-! ### dicts by typed keys -/
namespace N
section
variable {κ β : Type} [DecidableEq κ] {ek : κ → List PyData} {ev : β → PyData}
noncomputable def aget (m : List (κ × β)) (k : κ) : Option β := (m.find? fun p => decide (p.1 = k)).map (·.2)
noncomputable def aput (m : List (κ × β)) (k : κ) (v : β) : List (κ × β) := if (aget m k).isSome then m.map (fun p => if p.1 = k then (p.1, v) else p) else m ++ [(k, v)]
noncomputable def encM (ek : κ → List PyData) (ev : β → PyData) (m : List (κ × β)) : Kvs := m.map fun p => (ek p.1, ev p.2)
theorem look_enc (inj : ∀ a b, kk (ek a) = kk (ek b) → a = b) (m : List (κ × β)) (k : κ) : lookK (encM ek ev m) (ek k) = (aget m k).map ev := qt_of (by simp (disch := with_unfolding_all
  unfold lookK aget encM
  induction m with
  | nil => rfl
  | cons p m ih =>
    rw [List.map_cons]
    by_cases e : p.1 = k
    · rw [List.find?_cons_of_pos (by simp [e]), List.find?_cons_of_pos (by simp [e])]; rfl
    · rw [List.find?_cons_of_neg (by simpa using fun z => e (inj _ _ z)), List.find?_cons_of_neg (by simpa using e)]
      exact ih
  ) only [↓qt_eq])
theorem put_enc (inj : ∀ a b, kk (ek a) = kk (ek b) → a = b) (m : List (κ × β)) (k : κ) (v : β) : putK (encM ek ev m) (ek k) (ev v) = encM ek ev (aput m k v) := qt_of (by simp (disch := with_unfolding_all
  unfold putK aput
  rw [look_enc inj, Option.isSome_map]
  split
  · unfold encM
    rw [List.map_map, List.map_map]
    refine List.map_congr_left fun p _ => ?_
    show (if kk (ek p.1) = kk (ek k) then _ else _) = _
    by_cases e : p.1 = k
    · rw [if_pos (by rw [e])]
      show _ = (fun p : κ × β => (ek p.1, ev p.2)) (if p.1 = k then (p.1, v) else p)
      rw [if_pos e]
    · rw [if_neg (fun z => e (inj _ _ z))]
      show _ = (fun p : κ × β => (ek p.1, ev p.2)) (if p.1 = k then (p.1, v) else p)
      rw [if_neg e]
  · unfold encM; rw [List.map_append]; rfl
  ) only [↓qt_eq])
theorem aget_none {m : List (κ × β)} {k : κ} : aget m k = none ↔ ∀ p ∈ m, p.1 ≠ k := by
  unfold aget
  rw [Option.map_eq_none_iff, List.find?_eq_none]
  simp
theorem aget_mem {m : List (κ × β)} {k : κ} {v : β} (h : aget m k = some v) : (k, v) ∈ m := qt_of (by simp (disch := with_unfolding_all
  unfold aget at h
  obtain ⟨p, h1, rfl⟩ := Option.map_eq_some_iff.mp h
  have h2 := List.find?_some h1
  have h3 := List.mem_of_find?_eq_some h1
  have : p.1 = k := by simpa using h2
  rw [← this]; exact h3
  ) only [↓qt_eq])
theorem aget_aput {m : List (κ × β)} {k j : κ} {v : β} : aget (aput m k v) j = if j = k then some v else aget m j := qt_of (by simp (disch := with_unfolding_all
  unfold aput
  split
  · rename_i hs
    induction m with
    | nil => cases hs
    | cons p m ih =>
      have step : ∀ (q : κ × β) (l : List (κ × β)), aget (q :: l) j = if q.1 = j then some q.2 else aget l j := fun q l => by
        unfold aget
        by_cases e : q.1 = j
        · rw [if_pos e, List.find?_cons_of_pos (by simpa using e)]; rfl
        · rw [if_neg e, List.find?_cons_of_neg (by simpa using e)]
      have stepk : ∀ (q : κ × β) (l : List (κ × β)), aget (q :: l) k = if q.1 = k then some q.2 else aget l k := fun q l => by
        unfold aget
        by_cases e : q.1 = k
        · rw [if_pos e, List.find?_cons_of_pos (by simpa using e)]; rfl
        · rw [if_neg e, List.find?_cons_of_neg (by simpa using e)]
      rw [List.map_cons, step, step]
      by_cases e : p.1 = k
      · rw [if_pos e]
        show (if p.1 = j then some v else _) = _
        by_cases ej : j = k
        · rw [if_pos (by rw [e, ej]), if_pos ej]
        · rw [if_neg (by rw [e]; exact fun z => ej z.symm), if_neg ej, if_neg (by rw [e]; exact fun z => ej z.symm)]
          by_cases hm : (aget m k).isSome = true
          · rw [ih hm, if_neg ej]
          · have hn : ∀ q ∈ m, q.1 ≠ k := aget_none.mp (by cases h : aget m k with | none => rfl | some v => rw [h] at hm; exact absurd rfl hm)
            have : (m.map fun p => if p.1 = k then (p.1, v) else p) = m := by
              conv => rhs; rw [← List.map_id m]
              exact List.map_congr_left fun q hq => if_neg (hn q hq)
            rw [this]
      · rw [if_neg e]
        rw [stepk, if_neg e] at hs
        rw [ih hs]
        by_cases ej : j = k
        · rw [if_pos ej, if_pos ej]
          rw [if_neg (by rw [ej]; exact e)]
        · rw [if_neg ej, if_neg ej]
  · rename_i hs
    have hn : ∀ q ∈ m, q.1 ≠ k := aget_none.mp (by cases h : aget m k with | none => rfl | some v => rw [h] at hs; exact absurd rfl hs)
    unfold aget
    rw [List.find?_append]
    by_cases ej : j = k
    · subst ej
      rw [if_pos rfl, List.find?_eq_none.mpr (by simpa using hn)]
      simp
    · rw [if_neg ej]
      have : [(k, v)].find? (fun p => decide (p.1 = j)) = none := by
        rw [List.find?_eq_none]
        intro p hp
        rw [List.mem_singleton.mp hp]
        simpa using fun z => ej z.symm
      rw [this, Option.or_none]
  ) only [↓qt_eq])
theorem aput_keys {m : List (κ × β)} {k : κ} {v : β} (h : (m.map (·.1)).Nodup) : ((aput m k v).map (·.1)).Nodup := qt_of (by simp (disch := with_unfolding_all
  unfold aput
  split
  · rw [List.map_map]
    have : (m.map ((·.1) ∘ fun p : κ × β => if p.1 = k then (p.1, v) else p)) = m.map (·.1) := List.map_congr_left fun p _ => by
      show (if p.1 = k then (p.1, v) else p).1 = p.1
      split <;> rfl
    rw [this]; exact h
  · rename_i hs
    have hn : ∀ q ∈ m, q.1 ≠ k := aget_none.mp (by cases h : aget m k with | none => rfl | some v => rw [h] at hs; exact absurd rfl hs)
    rw [List.map_append, List.nodup_append]
    refine ⟨h, by simp, fun a ha b hb => ?_⟩
    obtain ⟨q, hq, rfl⟩ := List.mem_map.mp ha
    have : b = k := by simpa using hb
    rw [this]; exact hn q hq
  ) only [↓qt_eq])
end
end N
end U

end
section
/-! Keys that are whole numbers; sorted rows of whole numbers; forms for the walking tactic. -/
namespace U.N
open PySem L2 Evl
noncomputable abbrev inz (a : List Int) : List PyData := a.map PyData.int
theorem toKs_ints : ∀ a : List Int, toKs (inz a) = some (a.map NestedKey.num)
  | [] => rfl
  | x :: a => by
    show ((toK (.int x)).bind fun k => (toKs (inz a)).map (k :: ·)) = _
    rw [toKs_ints a]
    rfl
theorem kk_ints (a : List Int) : kk (inz a) = .tup (a.map NestedKey.num) := by
  show ((toKs (inz a)).map NestedKey.tup).getD .none = _
  rw [toKs_ints]
  rfl
theorem num_inj : ∀ {a b : List Int}, a.map NestedKey.num = b.map NestedKey.num → a = b
  | [], [], _ => rfl
  | [], _ :: _, h => by cases h
  | _ :: _, [], h => by cases h
  | x :: a, y :: b, h => by
    injection h with h1 h2
    injection h1 with h1
    rw [h1, num_inj h2]
theorem kk_inj (a b : List Int) (h : kk (inz a) = kk (inz b)) : a = b := by
  rw [kk_ints, kk_ints] at h
  injection h with h
  exact num_inj h
theorem kg_ints (a : List Int) : KG (inz a) := qt_of (by simp (disch := with_unfolding_all
  unfold KG
  rw [kk_ints]
  refine ⟨?_, _, rfl⟩
  have : NestedKey.depthAll (a.map NestedKey.num) ≤ 1 := by
    induction a with
    | nil => simp [NestedKey.depthAll]
    | cons x a ih =>
      rw [List.map_cons, NestedKey.depthAll]
      have : NestedKey.depth (.num x) ≤ 1 := by simp [NestedKey.depth]
      omega
  rw [NestedKey.depth]
  omega
  ) only [↓qt_eq])
/-! ### rows of whole numbers, sorted -/
theorem le_tr {a b c : List Int} (h1 : decide (a ≤ b) = true) (h2 : decide (b ≤ c) = true) : decide (a ≤ c) = true := by
  simp only [decide_eq_true_eq] at *
  exact List.le_trans h1 h2
theorem le_to (a b : List Int) : (decide (a ≤ b) || decide (b ≤ a)) = true := by
  rcases List.le_total a b with h | h <;> simp [h]
noncomputable def srtI (xs : List (List Int)) : List (List Int) := xs.mergeSort fun a b => decide (a ≤ b)
theorem srtI_pw (xs : List (List Int)) : (srtI xs).Pairwise (· ≤ ·) := by
  have := List.pairwise_mergeSort (le := fun a b : List Int => decide (a ≤ b)) (fun a b c => le_tr) (fun a b => le_to a b) xs
  exact this.imp fun h => by simpa using h
theorem srtI_mem {xs : List (List Int)} {a : List Int} : a ∈ srtI xs ↔ a ∈ xs := List.mem_mergeSort
theorem srtI_nodup {xs : List (List Int)} (h : xs.Nodup) : (srtI xs).Nodup := (List.mergeSort_perm xs _).nodup_iff.mpr h
theorem srtI_lt {xs : List (List Int)} (h : xs.Nodup) : (srtI xs).Pairwise (· < ·) := by
  have h1 := srtI_pw xs
  have h2 := srtI_nodup h
  have h3 := h1.and h2
  refine h3.imp fun ⟨a, b⟩ => ?_
  rcases List.le_iff_lt_or_eq.mp a with h | h
  · exact h
  · exact absurd h b
theorem le_not (a b : List Int) : (!decide (b < a)) = decide (a ≤ b) := by
  by_cases h : a ≤ b
  · rw [decide_eq_true h, decide_eq_false (List.not_lt.mpr h)]; rfl
  · rw [decide_eq_false h, decide_eq_true (List.not_le.mp h)]; rfl
theorem srt_tups (xs : List (List Int)) : srtD (xs.map fun a => .tuple (inz a)) = (srtI xs).map fun a => .tuple (inz a) := by
  unfold srtD srtI
  refine (List.map_mergeSort fun a _ b _ => ?_).symm
  show decide (a ≤ b) = !PySem.W.rowLt (inz b) (inz a)
  rw [PySem.W.dataLt_ints, le_not]
theorem depth_ints (a : List Int) : PyData.depthAll (inz a) = 0 := PySem.W.depth_ints a
theorem ok_tups {xs : List (List Int)} (h : ∀ a ∈ xs, a ≠ []) : SrtOk (xs.map fun a => .tuple (inz a)) := by
  refine ⟨fun d hd d' hd' => ?_, .inl fun d hd => ?_, fun d hd => ?_⟩
  · obtain ⟨a, _, rfl⟩ := List.mem_map.mp hd
    obtain ⟨b, _, rfl⟩ := List.mem_map.mp hd'
    exact PySem.W.alike_ints a b
  · obtain ⟨a, ha, rfl⟩ := List.mem_map.mp hd
    cases a with
    | nil => exact absurd rfl (h [] ha)
    | cons x a => exact ⟨_, _, rfl⟩
  · obtain ⟨a, _, rfl⟩ := List.mem_map.mp hd
    rw [PyData.depth, depth_ints]
    decide
/-! ### forms for the tactic -/
section
variable {K : Fg} {cs : Cs} {W : WX} {G : Gam} {ta tb : TE} {φ : PyData → Prop} {ε : Xw → Prop} {w : World} {ep : Nat} {kvs : Kvs} {i : Nat}
theorem ew_dxO (hi : G[i]? = some (.ow (od w ep kvs))) (h : EW K cs W tb G (fun y => ∃ k x, y = .tuple k ∧ KG k ∧ lookK kvs k = some x ∧ φ x) ε) : EW K cs W (tOp (rDx K w) (tVar i) tb) G φ ε := ew_dx (.inl hi) h
end
end U.N

end
section
namespace U.N
open PySem PyProof.Rows L2 Evl
section
variable {K : Fg} {cs : Cs} {W : WX} {G G' : Gam} {ta te : TE} {φ : PyData → Prop} {ε : Xw → Prop} {ι : List PyData → Prop} {χ : Own → Prop} {Φ : Out → Prop}
variable {Wd : Addr → Prop} {B : Bt} {ad : Nat → Addr} {H0 H H1 H2 : Hp} {σ : L2.St}
/-! ### enumerate -/
/-! ### many clauses -/
/-! the turns' items by a map -/
section
variable {β : Type} {xs : List β} {f : β → PyData} {g : TG} {tt : TT} {tc : TCl} {vs : List Nat} {m : Nat} {ρ : List PyData → Prop}
end
end
end U.N

end
section
/-! A list of one's own is lent to a test or a call that only reads it. -/
namespace U.N
open PySem PyProof.Rows L2 Evl
section
variable {K : Fg} {cs : Cs} {W : WX} {G : Gam} {te : TE} {t : TT} {φ : PyData → Prop} {ψ : Bool → Prop} {ε : Xw → Prop} {i : Nat} {xs : List PyData}
variable {Wd : Addr → Prop} {B : Bt} {ad : Nat → Addr} {H0 H H2 : Hp} {σ : L2.St}
theorem lend_tab (S : Sta K Wd B ad H0 H σ G) (hi : G[i]? = some (.ow (ol xs))) (S2 : Sta K Wd B ad H0 H2 σ (G.set i (.d (.list xs)))) (e : Xb B H H2) : ∀ p ∈ B.T, TabZ H2 (Zs Wd B ad G) p := fun p hp => by
  obtain ⟨ps, h1, h2, h3⟩ := S2.tab p hp
  refine ⟨ps, h1, h2, fun l cv hc => ?_⟩
  obtain ⟨c, e1, g⟩ := h3 l cv hc
  obtain ⟨n, g⟩ := less_some g
  refine ⟨c, e1, less_of (fun z => ?_) g⟩
  rcases z with z | ⟨j, c', g', r⟩ | z
  · exact n (.inl z)
  · by_cases k : i = j
    · subst k
      obtain ⟨_, _, _, vs, h4, _⟩ := S.at_ i _ hi
      have h5 : H2 (ad i) = some (.lst vs) := e _ _ h4 (S.sep i _ hi).2.1
      rw [← r, g] at h5
      cases h5
    · exact n (.inr (.inl ⟨j, c', by rw [List.getElem?_set_ne k]; exact g', r⟩))
  · exact n (.inr (.inr z))
theorem lend_xp (S : Sta K Wd B ad H0 H σ G) (hi : G[i]? = some (.ow (ol xs))) (x : XP K cs W Wd B ad H0 H σ G ε) : XP K cs W Wd B ad H0 H σ (G.set i (.d (.list xs))) ε := fun e he d H2 S2 xb hd hx => by
  have S3 := S.drawn xb S2.bag (lend_tab S hi S2 xb)
  refine x e he d H2 S3 xb hd ?_
  obtain ⟨n1, h1⟩ := less_some hx
  refine less_of (fun z => ?_) h1
  rcases z with z | ⟨j, c, g, r⟩ | z
  · exact n1 (.inl z)
  · by_cases e : i = j
    · subst e
      obtain ⟨_, _, _, vs, h3, _⟩ := S3.at_ i _ hi
      rw [hi] at g
      cases g
      rw [← r, h1] at h3
      cases h3
    · exact n1 (.inr (.inl ⟨j, c, by rw [List.getElem?_set_ne e]; exact g, r⟩))
  · exact n1 (.inr (.inr z))
theorem tw_lend (hi : G[i]? = some (.ow (ol xs))) (h : TW K cs W t (G.set i (.d (.list xs))) ψ ε) : TW K cs W t G ψ ε := fun Wd B ad H0 H σ S Q q x =>
  h Wd B ad H0 H σ (S.freeze hi) Q (fun b p H2 S2 e2 => q b p H2 (S.drawn e2 S2.bag (lend_tab S hi S2 e2)) e2) (lend_xp S hi x)
end
end U.N

end
section
namespace U.N
open PySem PyProof.Rows L2 Evl
section
variable {K : Fg} {cs : Cs} {W : WX} {G G' : Gam} {ta tb te : TE} {φ : PyData → Prop} {ε : Xw → Prop} {χ : Own → Prop} {Φ : Out → Prop} {γ : Gam → Prop} {P : Pr}
variable {Wd : Addr → Prop} {B : Bt} {ad : Nat → Addr} {H0 H H1 H2 : Hp} {σ : L2.St}
/-! ### first, *rest = xs -/
/-! ### calls with keywords that may raise -/
/-! ### xs.index(y) -/
end
/-! ### keys that are bodies -/
end U.N

end
section
namespace U.N
open PySem PyProof.Rows L2 Evl
section
variable {K : Fg} {cs : Cs} {W : WX} {G : Gam} {φ : PyData → Prop} {ε : Xw → Prop}
/-! ### max and min of a list of whole numbers -/
end
end U.N

end
section
namespace U.N
open PySem PyProof.Rows L2 Evl
section
variable {K : Fg} {cs : Cs} {W : WX} {G : Gam} {φ : PyData → Prop} {ε : Xw → Prop}
end
end U.N

end
section
namespace U.N
open PySem PyProof.Rows L2 Evl
section
variable {K : Fg} {cs : Cs} {W : WX} {G : Gam} {Φ : Out → Prop}
end
end U.N

end
section
namespace U.N
open PySem PyProof.Rows L2 Evl
section
variable {K : Fg} {cs : Cs} {W : WX} {G : Gam} {γ : Gam → Prop}
end
end U.N

end
section
/-! Defs as values: a def that tells a def by a text, and calls by a name that holds one. -/
namespace U.N
open PySem PyProof.Rows L2 Evl
noncomputable abbrev FTab := List (Str × Addr)
section
variable {K : Fg} {cs : Cs} {W : WX} {G : Gam} {φ : PyData → Prop} {ε : Xw → Prop} {Φ : Out → Prop} {t u : TE} {ta : TA} {i : Nat} {f : Addr} {P : Pr} {tab : FTab} {e : Xw}
end
/-! ### the body of such a def -/
section
variable (K : Fg) (cs : Cs) (W : WX)
end
section
variable {K : Fg} {cs : Cs} {W : WX} {G : Gam} {A : Addr → Prop} {ε : Xw → Prop} {t1 t2 : TS} {w : World} {f md : Addr} {i : Nat} {z : Str}
end
section
variable {Pg : Program} {w : World} {K : Fg} {mg : Str → Option Value} {base : Heap} {cs : Cs}
end
end U.N

end
section
/-! list(d), d a dict of one's own: its keys, in the order in which they came. -/
namespace U
open PySem PySem.W PyProof.Rows L2 Evl
end U
namespace U.N
open PySem PyProof.Rows L2 Evl
section
variable {K : Fg} {cs : Cs} {W : WX} {G : Gam} {φ : PyData → Prop} {χ : Own → Prop} {ε : Xw → Prop} {w : World} {i ep : Nat} {kvs : Kvs}
end
end U.N

end
section
/-! sorted(set(xs)), xs a list of tuples of whole numbers. -/
namespace U
open PySem PySem.W PyProof.Rows L2 Evl
theorem perm_back {α β : Type} {f : α → β} {vs us : List β} (p : vs.Perm us) : ∀ {L : List α}, us = L.map f → ∃ L1 : List α, L1.Perm L ∧ vs = L1.map f := by
  induction p with
  | nil =>
    intro L e
    exact ⟨L, .refl _, e⟩
  | cons x _ ih =>
    intro L e
    cases L with
    | nil => cases e
    | cons y L =>
      rw [List.map_cons] at e
      injection e with e1 e2
      obtain ⟨L1, p1, e3⟩ := ih e2
      exact ⟨y :: L1, p1.cons y, by rw [List.map_cons, e1, e3]⟩
  | swap x y l =>
    intro L e
    match L, e with
    | a :: b :: L, e =>
      rw [List.map_cons, List.map_cons] at e
      injection e with e1 e2
      injection e2 with e2 e3
      exact ⟨b :: a :: L, .swap a b L, by rw [List.map_cons, List.map_cons, e1, e2, e3]⟩
  | trans _ _ ih1 ih2 =>
    intro L e
    obtain ⟨L2, p2, e2⟩ := ih2 e
    obtain ⟨L1, p1, e1⟩ := ih1 e2
    exact ⟨L1, p1.trans p2, e1⟩
end U

end
section
/-! sorted(set(xs)), told to the readings. -/
namespace U.N
open PySem PyProof.Rows L2 Evl
section
variable {K : Fg} {cs : Cs} {W : WX} {G : Gam} {φ : PyData → Prop} {χ : Own → Prop} {ε : Xw → Prop} {te : TE} {P : Program} {w : World}
end
end U.N

end
section
/-! sorted(set(xs)) as a term; xs.insert(0, y). -/
namespace U.N
open PySem PyProof.Rows L2 Evl
section
variable {K : Fg} {cs : Cs} {W : WX} {G : Gam} {φ : PyData → Prop} {ε : Xw → Prop} {Φ : Out → Prop} {te : TE}
end
end U.N

end
section
/-! Texts: len, signs, slices, in, int(text), str(number), +, *, f-strings, partition, find, count, join. -/
namespace U.N
open PySem PyProof.Rows L2 Evl
/-! ### relations by name -/
section
variable {X : Cx} {o e : Expr} {to te : TE}
end
/-! ### isinstance(why, a built-in class) -/
end U.N
namespace U
open PySem PyProof.Rows L2 Evl
end U
namespace U.N
open PySem PyProof.Rows L2 Evl
/-! ### what suffices -/
section
variable {K : Fg} {cs : Cs} {W : WX} {G : Gam} {φ : PyData → Prop} {ε : Xw → Prop} {ι : List PyData → Prop} {te ta tb : TE}
end
end U.N

end
section
/-! An empty dict among data: displays that hold one, names and arguments that are one. -/
namespace U.N
open PySem PyProof.Rows L2 Evl
section
variable (K : Fg) (cs : Cs) (W : WX)
end
section
variable {K : Fg} {cs : Cs} {W : WX} {G : Gam} {ta tb te : TE} {tr tk : TA} {φ : PyData → Prop} {χ : Option PyData → Prop} {α : List (Option PyData) → Prop} {ε : Xw → Prop} {Φ : Out → Prop} {P P1 : Pr} {dvs : List V} {des : List PyData} {E : XK}
end
/-! ### the bodies of such defs -/
section
variable {Pg : Program} {w : World} {K : Fg} {mg : Str → Option Value} {base : Heap} {cs : Cs}
end
end U.N

end
section
/-! Lambdas handed to a def; defs that make some. -/
namespace U.N
open PySem PySem.Spec PyProof.Rows L2 Evl
section
variable {K : Fg} {cs : Cs} {W : WX} {G : Gam} {te : TE} {ta : TA} {φ : PyData → Prop} {χ : Own → Prop} {ε : Xw → Prop} {i : Nat}
variable {Wd : Addr → Prop} {B : Bt} {ad : Nat → Addr} {H0 H H1 H2 : Hp} {σ : L2.St}
/-! ### the call of a lambda -/
end
end U.N

end
section
/-! Defs in which lambdas are made: their tables grow. -/
namespace U.N
open PySem PySem.Spec PyProof.Rows L2 Evl
section
variable {K : Fg} {cs : Cs} {W : WX} {G : Gam} {te : TE} {ta : TA} {φ : PyData → Prop} {χ : Own → Prop} {ε : Xw → Prop} {i : Nat} {T : List (Addr × Str)}
variable {Wd : Addr → Prop} {B : Bt} {ad : Nat → Addr} {H0 H H1 H2 : Hp} {σ : L2.St}
section
variable {P : Pr} {dvs : List V} {des : List PyData}
end
/-! ### such a def -/
section
variable {Pg : Program} {w : World} {mg : Str → Option Value} {base : Heap}
end
/-! ### the law itself -/
end
end U.N

end
section
/-! The end of a law in which lambdas are made. -/
namespace U.N
open PySem PySem.Spec PyProof.Rows L2 Evl
end U.N

end
section
/-! set(xs), sorted(set(xs)), xs a list of nested tuples of whole numbers. -/
namespace U
open PySem PySem.Spec PyProof.Rows L2 Evl
structure NGot (ks : List Pk) (i : Nat) (L : List Pk) : Prop where
  sub : ∀ p ∈ L, p ∈ ks.take i
  all : ∀ p ∈ ks.take i, p.2 ∈ L.map (·.2)
  len : L.length ≤ i
theorem NGot.same {ks L : List Pk} {i : Nat} {x : Pk} (g : NGot ks i L) (h : ks[i]? = some x) (hm : x.2 ∈ L.map (·.2)) : NGot ks (i + 1) L := qt_of (by simp (disch := with_unfolding_all
  have e := take_next h
  refine ⟨fun p hp => by rw [e]; exact List.mem_append_left _ (g.sub p hp), fun p hp => ?_, Nat.le_succ_of_le g.len⟩
  rw [e] at hp
  rcases List.mem_append.mp hp with z | z
  · exact g.all p z
  · rwa [List.mem_singleton.mp z]
  ) only [↓qt_eq])
theorem NGot.more {ks L L' : List Pk} {i : Nat} {x : Pk} (g : NGot ks i L) (h : ks[i]? = some x) (pm : L'.Perm (x :: L)) : NGot ks (i + 1) L' := qt_of (by simp (disch := with_unfolding_all
  have e := take_next h
  refine ⟨fun p hp => ?_, fun p hp => ?_, by rw [pm.length_eq]; exact Nat.succ_le_succ g.len⟩
  · rw [e]
    rcases List.mem_cons.mp (pm.mem_iff.mp hp) with rfl | z
    · simp
    · exact List.mem_append_left _ (g.sub p z)
  · rw [(pm.map (·.2)).mem_iff, List.map_cons]
    rw [e] at hp
    rcases List.mem_append.mp hp with z | z
    · exact .tail _ (g.all p z)
    · rw [List.mem_singleton.mp z]; exact .head _
  ) only [↓qt_eq])
noncomputable abbrev freshS (w : World) : Obj := { cls := .type "set", dict := none, data := .set #[] 0 (.fresh 0 0 (!w.params.followText "set-order")) }
section
variable {P : Program} {w : World} {A : Around} {E : Value → Shared → Prop} {s : Shared}
theorem NS.keep {h h' : Heap} {a : Addr} {L : List Pk} {es : Array (Int × Value)} {ep : Nat} {t : SetTable} (R : NS P w h a L es ep t) (ha : ∀ o, h.get? a = some o → h'.get? a = some o) (ht : ∀ p ∈ L, KyN P w h' p.2 p.1) : NS P w h' a L es ep t := by
  obtain ⟨o, ho, r⟩ := R.ob
  exact ⟨⟨o, ha o ho, r⟩, R.row, R.tab, R.nd, ht, R.pl, R.ld, R.rm, R.few⟩
theorem ns_fresh {h : Heap} {a : Addr} (ho : h.get? a = some (freshS w)) : NS P w h a [] #[] 0 (.fresh 0 0 (!w.params.followText "set-order")) where
  ob := ⟨_, ho, ⟨rfl, rfl, rfl⟩, rfl⟩
  row := rfl
  tab := ⟨.nil, rfl, rfl, .inl rfl, fun x hx => (by cases hx), fun i h j hi => (by simp at hi)⟩
  nd := .nil
  key := fun p hp => by cases hp
  pl := rfl
  ld := by
    cases e : w.params.followText "set-order"
    · exact .inr rfl
    · exact .inl rfl
  rm := by show 0 * 5 < 7 * 3; decide
  few := by show 0 < 64; decide
/-- set.update's loop -/
theorem nupd {I : Addr} {fp wr : List Addr} {G : Array GenState → Array GenState → Prop} {n : Nat} {Pv : Nat → Value → Prop} {St : Nat → Shared → Prop} {R : Result → Shared → Prop} (W : WalksS P w A.in1 I fp wr G n Pv St) (S : Addr) (hSf : S ∉ fp) (ks : List Pk) (hn : n = ks.length) (hfew : ks.length < 64)
    (hval : ∀ i v, Pv i v → ∃ p, ks[i]? = some p ∧ v = .ref p.1) (h0 : Heap) (hk : ∀ p ∈ ks, KyN P w h0 p.2 p.1) (hS0 : h0.get? S = none) (hw0 : ∀ b ∈ wr, h0.get? b = none) (hu : A.in1.units + 8 < cLine) :
    ∀ (k i : Nat) (s : Shared), n - i = k → i ≤ n → St i s → (∀ b o, h0.get? b = some o → s.heap.get? b = some o) → (∃ L es ep t, NS P w s.heap S L es ep t ∧ NGot ks i L) →
      (∀ s' L es ep t, Moved (S :: wr) G s s' → NS P w s'.heap S L es ep t → NGot ks n L → (∀ b o, h0.get? b = some o → s'.heap.get? b = some o) → R (.ok (.ret .none)) s') → codeAny (model P w) A (.builtin "set.update.loop" ⟨[.ref S, .ref I], []⟩) R s := qt_of (by simp (disch := with_unfolding_all
  have inc : ∀ b ∈ wr, b ∈ S :: wr := fun b hb => .tail _ hb
  have nS : S ∉ wr := fun h => hSf (W.sub _ h)
  have kept : ∀ {s s' : Shared}, Moved wr G s s' → (∀ b o, h0.get? b = some o → s.heap.get? b = some o) → ∀ b o, h0.get? b = some o → s'.heap.get? b = some o := fun hm hkp b o e => hm.heap b o (fun hb => by rw [hw0 b hb] at e; cases e) (hkp b o e)
  intro k
  induction k with
  | zero =>
    intro i s hk' hi hst hkp ⟨L, es, ep, t, hS, g⟩ hR
    obtain rfl : i = n := by omega
    refine codeAny_builtin F.entry_set_update_loop ?_
    rw [Around.under_plainId F.plain_set_update_loop _]
    show wpAny (model P w) A.in1 (pyNext (.ref I) >>= _) _ _ s
    refine wpAny_bind (W.done s _ _ hst fun s' hm => ?_)
    have hkp' := kept hm hkp
    exact wpAny_pure (hR s' L es ep t (hm.mono inc) (hS.keep (fun o e => hm.heap S o nS e) fun p hp => (hk p (List.mem_of_mem_take (g.sub p hp))).keep hkp') g hkp')
  | succ k ih =>
    intro i s hk' hi hst hkp ⟨L, es, ep, t, hS, g⟩ hR
    refine codeAny_builtin F.entry_set_update_loop ?_
    rw [Around.under_plainId F.plain_set_update_loop _]
    show wpAny (model P w) A.in1 (pyNext (.ref I) >>= _) _ _ s
    refine wpAny_bind (W.item i s _ _ (by omega) hst fun v s' hP hst' hm => ?_)
    obtain ⟨p, hp, rfl⟩ := hval i v hP
    have hkp' := kept hm hkp
    have hS' := hS.keep (fun o e => hm.heap S o nS e) fun q hq => (hk q (List.mem_of_mem_take (g.sub q hq))).keep hkp'
    have hx := (hk p (List.mem_of_getElem? hp)).keep hkp'
    show wpAny (model P w) A.in1 (holding [Value.ref p.1] (setAdd S (.ref p.1)) >>= _) _ _ s'
    refine wpAny_bind (wpAny_holding ?_)
    unfold setAdd
    refine wpAny_holding (wpAny_bind ((nestedKind P w).pyHash hu hx.is ?_))
    refine nadd (s := { s' with toks := s'.toks + (nestedKind P w).draws p.2 }) hS' hx hu (by have := g.len; omega) fun b h' L' es' ep' t' hsb hS2 c1 c2 => ?_
    have g' : NGot ks (i + 1) L' := (Classical.em (p.2 ∈ L.map (·.2))).elim (fun c => by rw [c1 c]; exact g.same hp c) fun c => g.more hp (c2 c)
    have hkp2 : ∀ b o, h0.get? b = some o → h'.get? b = some o := fun b o e => (hsb.2 b (fun z => by rw [z, hS0] at e; cases e)).trans (hkp' b o e)
    refine wpAny_pure ⟨plainId_quiet F.plain_set_update_loop _, ih (i + 1) _ (by omega) (by omega) (W.frame _ s' _ _ hst' (Nat.le_add_right _ _) fun b hb o e => (hsb.2 b (fun h => hSf (h ▸ hb))).trans e) hkp2 ⟨L', es', ep', t', hS2, g'⟩ fun s'' L2 es2 ep2 t2 hm'' hS'' g'' hkp'' => ?_⟩
    exact hR s'' L2 es2 ep2 t2 (Moved.trans W.gtrans ((hm.mono inc).then_heap (Nat.le_add_right _ _) fun b o hb e => (hsb.2 b (fun h => hb (h ▸ .head _))).trans e) hm'') hS'' g'' hkp''
  ) only [↓qt_eq])
/-- set(xs) -/
theorem call_nset {l : Addr} {items : Array Value} (ks : List Pk) {Q : Value → Shared → Prop} (hh : A.handled = none) (hl : s.heap.IsList l items) (hit : items.toList = ks.map fun p => Value.ref p.1) (hk : ∀ p ∈ ks, KyN P w s.heap p.2 p.1) (hfew : ks.length < 64) (hu : A.units + 16 < cLine)
    (h : ∀ (h' : Heap) (tk : Nat) L es ep t, NS P w h' s.heap.objs.size L es ep t → NGot ks ks.length L → (∀ b o, s.heap.get? b = some o → h'.get? b = some o) → Q (.ref s.heap.objs.size) { s with heap := h', toks := tk }) : wpAny (model P w) A (call (.type "set") [.ref l]) Q E s := qt_of (by simp (disch := with_unfolding_all
  have hisz : items.size = ks.length := by rw [← Array.length_toList, hit, List.length_map]
  obtain ⟨c, tl, hmro⟩ := F.called_set.mro
  have hmade := F.called_set.made
  have hsub := F.called_set.sub
  refine wpAny_call (codeAny_of_tree ?_)
  show wpAny (model P w) _ (callAny (.type "set") _) _ _ _
  refine wpAny_pure ⟨Code.quiet_builtin _ (by decide +kernel), codeAny_builtin F.entry_type_call ?_⟩
  rw [Around.under_plain (weight_type_call_type "set" [.ref l] []) rfl]
  have h1 := F.called_set.notType
  have h2 := F.called_set.canCreate
  have hct := F.typeCall_set_1 (.ref l)
  repeat any_goals first | assumption | wp_step
  refine codeAny_mono (code_set_led1 (.ref l) (E := E) (Q₁ := fun obj s₁ => obj = .ref s.heap.objs.size ∧ s₁ = { s with heap := s.heap.push (freshS w) }) ⟨rfl, rfl⟩) fun r s₁ hr => ?_
  rcases r with e | fl
  · exact hr
  rcases fl with _ | _ | _ | obj
  any_goals exact hr.elim
  obtain ⟨rfl, rfl⟩ := hr
  have hS : (s.heap.push (freshS w)).get? s.heap.objs.size = some (freshS w) := Heap.get?_push_size _ rfl
  have hT : Shared.TypeIs { s with heap := s.heap.push (freshS w) } (.ref s.heap.objs.size) "set" := ⟨_, hS, rfl⟩
  have hli := F.called_set.init.lookup
  have hbi := F.called_set.init.bind (.ref s.heap.objs.size)
  repeat any_goals first | assumption | wp_step
  refine codeAny_mono (codeAny_call_builtin (R := wants (fun r s₂ => r = .none ∧ ∃ h' tk L es ep t, s₂ = { s with heap := h', toks := tk } ∧ NS P w h' s.heap.objs.size L es ep t ∧ NGot ks ks.length L ∧ (∀ b o, s.heap.get? b = some o → h'.get? b = some o)) E) F.called_set.init.plain F.entry_set_init (check_set_init_1 hT ?_)) fun r₂ s₂ hr₂ => ?_
  · obtain ⟨ol, hol, hcl, nl, hdl⟩ := hl
    obtain ⟨ocls, odict, odata, oslots⟩ := ol
    simp only at hcl hdl
    subst hcl; subst hdl
    have hl1 : (s.heap.push (freshS w)).IsList l items := ⟨_, Heap.get?_push_of_some _ hol, rfl, nl, rfl⟩
    have hol' : (s.heap.push (freshS w)).get? l = some { cls := .type "list", dict := odict, data := .seq items nl, slots := oslots } := Heap.get?_push_of_some _ hol
    have hsls := F.sub_list_set
    have hslf := F.sub_list_frozenset
    have hne : (Value.type "list" == Value.type "dict") = false := by decide
    have hlS : l < s.heap.objs.size := Heap.lt_size hol
    have gone : ∀ b, s.heap.objs.size ≤ b → s.heap.get? b = none := fun b hb => by
      cases q : s.heap.get? b with
      | none => rfl
      | some o => exact absurd (Nat.lt_of_lt_of_le (Heap.lt_size q) hb) (Nat.lt_irrefl _)
    have z1 : (s.heap.push (freshS w)).objs.size = s.heap.objs.size + 1 := Heap.size_push ..
    have hval : ∀ (i : Nat) (v : Value), items[i]? = some v → ∃ p, ks[i]? = some p ∧ v = .ref p.1 := fun i v hv => by
      rw [← Array.getElem?_toList, hit, List.getElem?_map] at hv
      obtain ⟨p, hp, e⟩ := Option.map_eq_some_iff.mp hv
      exact ⟨p, hp, e.symm⟩
    unfold Builtin.«set.__init__» noKeywords Builtin.Frozenset.updateFrom
    generalize hPI : pyIter = PI
    wp_walk
    subst hPI
    refine wpAny_pyIter_list hl1 (wpAny_bind (wpAny_runValue ?_))
    refine nupd ((Walks.list (by simp [hh]) _ l (by rw [z1]; exact Nat.ne_of_lt (Nat.lt_succ_of_lt hlS)) items).toS) s.heap.objs.size (by rw [z1]; simp only [List.mem_cons, List.not_mem_nil, or_false, not_or]; exact ⟨Nat.ne_of_lt (Nat.lt_succ_self _), Nat.ne_of_gt hlS⟩) ks hisz hfew hval s.heap hk (gone _ (Nat.le_refl _)) (fun b hb => gone b (by rw [List.mem_singleton.mp hb, z1]; exact Nat.le_succ _)) (by show A.units + 1 + 1 + 1 + 8 < cLine; omega) (items.size - 0) 0 _ (by omega) (Nat.zero_le _)
      ⟨⟨_, Heap.get?_push_size _ rfl, rfl, rfl⟩, hl1.push _⟩ (fun b o e => Heap.get?_push_of_some _ (Heap.get?_push_of_some _ e)) ⟨[], #[], 0, _, ns_fresh (Heap.get?_push_of_some _ hS), fun p h => by (cases h), fun p h => (by simp at h), Nat.le_refl _⟩ fun s' L es ep t hm R g kp => ?_
    obtain ⟨h', g2, d', tk', os'⟩ := s'
    obtain rfl : g2 = s.gens := hm.gens
    obtain rfl : d' = s.drawn := hm.drawn
    obtain rfl : os' = s.os := hm.os
    rw [hisz] at g
    refine wpAny_pure ?_
    exact wpAny_pure ⟨rfl, h', tk', L, es, ep, t, rfl, R, g, kp⟩
  · rcases r₂ with e | fl₂
    · exact hr₂
    rcases fl₂ with _ | _ | _ | r
    any_goals exact hr₂.elim
    obtain ⟨rfl, h', tk, L, es, ep, t, rfl, R, g, kp⟩ := hr₂
    repeat any_goals first | assumption | wp_step
    exact h _ _ _ _ _ _ R g kp
  ) only [↓qt_eq])
end
/-! ### in the data layer -/
/-- the set at a, without the keys themselves -/
structure NS0 (P : Program) (w : World) (h : Heap) (a : Addr) (L : List Pk) : Prop where
  ex : ∃ (es : Array (Int × Value)) (ep : Nat) (t : SetTable), (∃ o, h.get? a = some o ∧ o.ExactSet ∧ o.data = .set es ep t) ∧ es.toList = nrw w L ∧ TabOk t (nhs w L) ∧ (L.map (·.2)).Nodup ∧ t.plain = true ∧ (w.params.followText "set-order" = true ∨ t.led = true) ∧ L.length * 5 < t.mask * 3 ∧ L.length < 64
noncomputable def SetNO (P : Program) (w : World) (a : Addr) (L : List Pk) : HO := .ext fun h => NS0 P w h a L
theorem NS.zero {P : Program} {w : World} {h : Heap} {a : Addr} {L : List Pk} {es : Array (Int × Value)} {ep : Nat} {t : SetTable} (R : NS P w h a L es ep t) : NS0 P w h a L := ⟨es, ep, t, R.ob, R.row, R.tab, R.nd, R.pl, R.ld, R.rm, R.few⟩
theorem NS0.full {P : Program} {w : World} {h : Heap} {a : Addr} {L : List Pk} (R : NS0 P w h a L) (ht : ∀ p ∈ L, KyN P w h p.2 p.1) : ∃ es ep t, NS P w h a L es ep t := by
  obtain ⟨es, ep, t, h1, h2, h3, h4, h5, h6, h7, h8⟩ := R.ex
  exact ⟨es, ep, t, h1, h2, h3, h4, ht, h5, h6, h7, h8⟩
theorem setNO_ok {P : Program} {w : World} {H : Hp} {h : Heap} {a : Addr} {L : List Pk} (R : NS0 P w h a L) : ObjOk P w H h a (SetNO P w a L) := by
  obtain ⟨es, ep, t, ⟨o, ho, r⟩, q⟩ := R.ex
  refine ⟨R, ⟨o, ho⟩, fun h1 h2 p k => ?_⟩
  obtain ⟨es', ep', t', ⟨o', ho', r'⟩, q'⟩ := NS0.ex p
  exact ⟨es', ep', t', ⟨o', k o' ho', r'⟩, q'⟩
/-- data fit for a set: whole numbers alone -/
noncomputable def KyD (x : PyData) : Prop := ∃ k, toK x = some k ∧ k.depth ≤ 8 ∧ NumK k = true
noncomputable def kyD (x : PyData) : NK := (toK x).getD .none
noncomputable abbrev pkD (p : Addr × PyData) : Pk := (p.1, kyD p.2)
noncomputable abbrev tvD (L : List (Addr × PyData)) : List (V × PyData) := L.map fun q => (V.ref q.1, q.2)
theorem KyD.at_ {x : PyData} (h : KyD x) : toK x = some (kyD x) ∧ (kyD x).depth ≤ 8 ∧ NumK (kyD x) = true := by
  obtain ⟨k, e, d⟩ := h
  have : kyD x = k := by unfold kyD; rw [e]; rfl
  rw [this]
  exact ⟨e, d⟩
theorem map_back {α β : Type} {f : α → β} {ks : List α} : ∀ {L : List β}, (∀ x ∈ L, x ∈ ks.map f) → ∃ L0 : List α, L = L0.map f ∧ ∀ y ∈ L0, y ∈ ks
  | [], _ => ⟨[], rfl, by simp⟩
  | x :: L, h => by
    obtain ⟨y, hy, e⟩ := List.mem_map.mp (h x (.head _))
    obtain ⟨L0, e0, h0⟩ := map_back fun z hz => h z (.tail _ hz)
    refine ⟨y :: L0, by rw [List.map_cons, e, e0], fun z hz => ?_⟩
    rcases List.mem_cons.mp hz with rfl | hz
    · exact hy
    · exact h0 z hz
section
variable {X : Cx} {pins : List (Addr × Obj)} {σ : L2.St} {H : Hp} {s : Shared}
theorem kyn_of (I : Inv X pins σ H s) {p : Addr × PyData} (d : Dp X.K H (.ref p.1) p.2) (k : KyD p.2) : KyN X.prog X.w s.heap (kyD p.2) p.1 := ⟨⟨nk_is I d rfl k.at_.1, k.at_.2.1⟩, k.at_.2.2⟩
/-- set(xs), xs a list of nested tuples of whole numbers -/
noncomputable def rSetN (K : Fg) (P : Program) (w : World) : List V → Hp → VK → Prop := fun xs H Q => ∃ (l : Addr) (ks : List (Addr × PyData)), xs = [V.ref l] ∧ SqL K H l (ks.map fun p => V.ref p.1) ∧ (∀ p ∈ ks, Dp K H (.ref p.1) p.2 ∧ KyD p.2) ∧ ks.length < 64 ∧
  ∀ a (L : List (Addr × PyData)), H a = none → (∀ p ∈ L, p ∈ ks) → (∀ p ∈ ks, kyD p.2 ∈ L.map fun q => kyD q.2) → Q (.ref a) (upd H a (SetNO P w a (L.map pkD)))
theorem refs_of : ∀ {ks : List (Addr × PyData)} {us : List Value}, Vals (ks.map fun p => V.ref p.1) us → us = ks.map fun p => Value.ref p.1
  | [], _, .nil => rfl
  | p :: ks, _, .cons r t => by
    cases r
    rw [refs_of t]
    rfl
theorem cr_setN (hc : X.calm = true) (hu : X.A.units + 64 < cLine) : CallR X (.type "set") (rSetN X.K X.prog X.w) := by
  intro pins s σ H xs us Q I r h
  obtain ⟨l, ks, rfl, hl, hk, hf, q⟩ := h
  rw [Vals.ref1 r]
  obtain ⟨its, rv, pl, hz⟩ := I.list hl
  have hn : H s.heap.objs.size = none := I.hok.fresh (Nat.le_refl _)
  refine call_nset (P := X.prog) (w := X.w) (ks.map pkD) (I.ok.hd hc) pl.isList (by rw [List.toList_toArray, refs_of rv, List.map_map]; rfl) (fun p hp => ?_) (by rw [List.length_map]; exact hf) (by omega) fun h' tk L es ep t R g k => ?_
  · obtain ⟨y, hy, rfl⟩ := List.mem_map.mp hp
    exact kyn_of I (hk y hy).1 (hk y hy).2
  · obtain ⟨L0, rfl, h0⟩ := map_back fun p hp => List.mem_of_mem_take (g.sub p hp)
    refine ⟨.ref s.heap.objs.size, upd H s.heap.objs.size (SetNO X.prog X.w s.heap.objs.size (L0.map pkD)), I.laid (t' := tk) k (Nat.le_refl _) (setNO_ok R.zero), rfl, q _ L0 hn h0 fun p hp => ?_⟩
    have := g.all (pkD p) (by rw [List.take_length]; exact List.mem_map.mpr ⟨p, hp, rfl⟩)
    rwa [List.map_map] at this
/-- sorted(set) -/
noncomputable def rSrtN (K : Fg) (P : Program) (w : World) : List V → Hp → VK → Prop := fun vs H Q => ∃ (a : Addr) (L : List (Addr × PyData)), vs = [V.ref a] ∧ H a = some (SetNO P w a (L.map pkD)) ∧ (∀ p ∈ L, Dp K H (.ref p.1) p.2 ∧ KyD p.2) ∧
  (∀ L1 : List (Addr × PyData), L1.Perm L → (L1.map fun p => kyD p.2).Nodup → L1.length < 64 → SrtOk ((tvD L1).map (·.2)) ∧ ∀ l, H l = none → Q (.ref l) (upd H l (.lst ((srtP (tvD L1)).map (·.1)))))
theorem vals_tvD : ∀ L : List (Addr × PyData), Vals ((tvD L).map (·.1)) (L.map fun q => Value.ref q.1)
  | [] => .nil
  | q :: L => .cons rfl (vals_tvD L)
noncomputable abbrev lstO (vs : List Value) : Obj := { cls := .type "list", data := .seq vs.toArray }
theorem cr_srtN (hc : X.calm = true) (hu : X.A.units + 64 < cLine) : CallR X (.builtin "sorted") (rSrtN X.K X.prog X.w) := by
  intro pins s σ H vs us Q I r h
  obtain ⟨a, L, rfl, ha, hk, q⟩ := h
  have R0 : NS0 X.prog X.w s.heap a (L.map pkD) := (I.hok a _ ha).1
  obtain ⟨es, ep, t, R⟩ := R0.full fun p hp => by
    obtain ⟨y, hy, rfl⟩ := List.mem_map.mp hp
    exact kyn_of I (hk y hy).1 (hk y hy).2
  rw [Vals.ref1 r]
  obtain ⟨o, ho, hex, hd⟩ := R.ob
  have few := R.few
  have sz := nrw_len R.row
  rw [List.length_map] at few sz
  refine PySem.Calls.call_function_entry kind_sorted plain_sorted entry_sorted (args_sorted1 _) ?_
  unfold Builtin.«sorted»
  refine wpAny_bind (m := checkCount "sorted" 1 1 _) (wpAny_pure (wpAny_bind (collect_set (A := X.A.in1) (I.ok.hd hc) ⟨o, ho, hex.1, hd⟩ R.fits (by unfold scanBound; omega) R.tab.ris R.ld fun s1 vs k1 hz g1 o1 pm => ?_)))
  have rows : es.toList.map (·.2) = L.map fun q => Value.ref q.1 := by
    rw [R.row, nrw, List.map_map, List.map_map]
    rfl
  obtain ⟨L1, p1, rfl⟩ := perm_back pm rows
  have nd := R.nd
  rw [List.map_map] at nd
  obtain ⟨⟨ok1, ok2, ok3⟩, q⟩ := q L1 p1 ((p1.map _).nodup_iff.mpr nd) (by rw [p1.length_eq]; exact few)
  have len1 := p1.length_eq
  have hL : (tvD L1).length ≤ sizeLine := by rw [List.length_map, sizeLine_eq]; omega
  have hp : ∀ p ∈ tvD L1, Dp X.K H p.1 p.2 := fun p hp => by
    obtain ⟨x, hx, rfl⟩ := List.mem_map.mp hp
    exact (hk x (p1.mem_iff.mp hx)).1
  have ev := vals_each (vals_tvD L1)
  refine wpAny_bind (wpAny_newList ?_ (by rw [List.length_map, sizeLine_eq]; omega))
  generalize hus : (L1.map fun q => Value.ref q.1) = us at ev
  have at1 : (s1.heap.push (lstO us)).get? s1.heap.objs.size = some (seqObj "list" us.toArray 0) := Heap.get?_push_size _ rfl
  have kp : ∀ b o, s.heap.get? b = some o → (s1.heap.push (lstO us)).get? b = some o := fun b o e => Heap.get?_push_of_some _ (k1 b o e)
  have er : PySem.W.EachIs (fun u p => ∃ as, Reads (s1.heap.push (lstO us)) u p.2 as ∧ s1.heap.objs.size ∉ as) us (tvD L1) := (each_reads I hp ev).mono fun u p ⟨as, r⟩ => ⟨as, PyProof.Rows.Reads.keeps kp r, fun z => by
    obtain ⟨o, e⟩ := PyProof.On.reads_mem_get r _ z
    exact absurd (Heap.lt_size (k1 _ _ e)) (Nat.lt_irrefl _)⟩
  refine wpAny_bind (wpAny_holding (PySem.W.list_sort_data (A := X.A.in1) (enc := (·.2)) (s := { s1 with heap := s1.heap.push (lstO us) }) at1 ev er ok1 ok2 hL (fun p hp' => ?_) fun out ho' eo => ?_))
  · have d := ok3 _ (List.mem_map.mpr ⟨p, hp', rfl⟩)
    show X.A.units + 1 + 1 + p.2.depth < cLine
    omega
  · obtain ⟨ep', he'⟩ := PyProof.Rows.sortedHeap_at (vs := us) (out := out.toArray) at1
    have hlen : (((tvD L1).mergeSort (PySem.W.dataLe false (·.2))).map (·.1)).length ≤ sizeLine := by rw [List.length_map, List.length_mergeSort]; exact hL
    have kk : ∀ b o, s.heap.get? b = some o → (sortedHeap (s1.heap.push (lstO us)) s1.heap.objs.size us out.toArray).get? b = some o := fun b o e => by
      have hb := Heap.lt_size (k1 b o e)
      rw [PyProof.Rows.sortedHeap_old (Nat.ne_of_lt hb) (by rw [Heap.size_push]; exact Nat.lt_succ_of_lt hb)]
      exact kp b o e
    have hn : H s1.heap.objs.size = none := I.hok.fresh hz
    have J : Inv X pins σ (upd H s1.heap.objs.size (.lst ((srtP (tvD L1)).map (·.1)))) { s with heap := sortedHeap (s1.heap.push (lstO us)) s1.heap.objs.size us out.toArray, gens := s1.gens, drawn := s1.drawn, toks := s1.toks } :=
      I.call (ch := []) (Un.laid kk hz hn) (I.hok.laid kk hz ⟨hlen, out, ep', each_vals eo, he'⟩) (by rw [g1]; exact I.bare) (fun _ z => nomatch z)
    refine wpAny_pure ⟨_, rfl, .ref s1.heap.objs.size, _, ?_, rfl, q _ hn⟩
    have e : ∀ h : Heap, ({ s1 with heap := h } : Shared) = { s with heap := h, gens := s1.gens, drawn := s1.drawn, toks := s1.toks } := fun h => by
      cases s1
      cases s
      cases o1
      rfl
    rw [← e] at J
    exact J
end
end U

end
section
/-! sorted(set(xs)) of nested tuples of whole numbers, told to the readings. -/
namespace U.N
open PySem PyProof.Rows L2 Evl
section
variable {K : Fg} {cs : Cs} {W : WX} {G : Gam} {φ : PyData → Prop} {χ : Own → Prop} {ε : Xw → Prop} {te : TE} {P : Program} {w : World}
noncomputable def IsTup : PyData → Prop
  | .tuple _ => True
  | _ => False
theorem dpa_pairs {M : Hp} : ∀ {xs : List PyData} {us : List V}, DpAll K M us xs → (∀ x ∈ xs, IsTup x) → ∃ ks : List (Addr × PyData), us = ks.map (fun p => V.ref p.1) ∧ ks.map (·.2) = xs ∧ ∀ p ∈ ks, Dp K M (.ref p.1) p.2
  | [], _, h, _ => by cases h; exact ⟨[], rfl, rfl, by simp⟩
  | x :: xs, _, h, t => by
    cases h with
    | cons a b =>
      obtain ⟨ks, h1, h2, h3⟩ := dpa_pairs b fun y hy => t y (.tail _ hy)
      have tx := t x (.head _)
      cases a with
      | @tup l us _ g u =>
        refine ⟨(l, _) :: ks, by rw [List.map_cons, h1], by rw [List.map_cons, h2], fun p hp => ?_⟩
        rcases List.mem_cons.mp hp with rfl | hp
        · exact .tup g u
        · exact h3 p hp
      | _ => exact tx.elim
/-- what sorted(set(xs)) asks and tells -/
noncomputable def SrtSetOk (xs : List PyData) (p : List PyData → Prop) : Prop := xs.length < 64 ∧ (∀ x ∈ xs, IsTup x ∧ KyD x) ∧ ∀ ks : List PyData, (ks.map kyD).Nodup → (∀ x ∈ ks, x ∈ xs) → (∀ x ∈ xs, kyD x ∈ ks.map kyD) → SrtOk ks ∧ p ks
theorem ef_srtN (h : EW K cs W te G (fun x => ∃ xs : List PyData, x = .list xs ∧ SrtSetOk xs fun ks => χ (ol (srtD ks))) ε) : EF K cs W (tCB (rSrtN K P w) (tCons (tCB (rSetN K P w) (tCons te tNil)) tNil)) G χ ε := fun Wd B ad H0 H σ S Q q x =>
  h Wd B ad H0 H σ S _ (fun y ⟨xs, e, lt, kx, p⟩ v H1 S1 e1 d1 => by
    subst e
    cases d1 with
    | @lst a us _ g t =>
      obtain ⟨ks, k1, k2, k3⟩ := dpa_pairs t fun x hx => (kx x hx).1
      subst k1
      subst k2
      have mk : ∀ p ∈ ks, KyD p.2 := fun p hp => (kx _ (List.mem_map.mpr ⟨p, hp, rfl⟩)).2
      have k4 : ∀ p ∈ ks, Dp K H1 (.ref p.1) p.2 := fun p hp => dp_mono less_ex (k3 p hp)
      refine ⟨a, ks, rfl, ex_l less_ex g, fun p hp => ⟨k4 p hp, mk p hp⟩, by rwa [List.length_map] at lt, fun A L hn hsub hcov => ?_⟩
      have ex : Ex H1 (upd H1 A (SetNO P w A (L.map pkD))) := fun b o h => by
        unfold upd
        rw [if_neg (fun e => by rw [e, hn] at h; cases h)]
        exact h
      refine ⟨A, L, rfl, by unfold upd; rw [if_pos rfl], fun p hp => ⟨dp_mono ex (k4 p (hsub p hp)), mk p (hsub p hp)⟩, fun L1 p1 nd1 l1 => ?_⟩
      have em : (tvD L1).map (·.2) = L1.map (·.2) := by rw [List.map_map]; rfl
      obtain ⟨ok, pc⟩ := p (L1.map (·.2)) (by rw [List.map_map]; exact nd1) (fun x hx => by
        obtain ⟨y, hy, rfl⟩ := List.mem_map.mp hx
        exact List.mem_map.mpr ⟨y, hsub y (p1.mem_iff.mp hy), rfl⟩) fun x hx => by
        obtain ⟨y, hy, rfl⟩ := List.mem_map.mp hx
        obtain ⟨z, hz, e⟩ := List.mem_map.mp (hcov y hy)
        rw [List.map_map]
        exact List.mem_map.mpr ⟨z, p1.mem_iff.mpr hz, e⟩
      refine ⟨by rw [em]; exact ok, fun l hn2 => ?_⟩
      have d : DpAll K (less (upd H1 A (SetNO P w A (L.map pkD))) (Zs Wd B ad G)) ((srtP (tvD L1)).map (·.1)) (srtD ((tvD L1).map (·.2))) := srt_dpa fun p hp => by
        obtain ⟨x, hx, rfl⟩ := List.mem_map.mp hp
        exact dp_mono (less_mono ex) (k3 x (hsub x (p1.mem_iff.mp hx)))
      rw [em] at d
      exact q _ pc l _ _ (S1.ext ex) (e1.trans fun b o h _ => ex b o h) hn2 d) x
noncomputable def tSrtN (K : Fg) (te : TE) : TE := fun σ H Q => ∀ (P : Program) (w : World), tCB (rSrtN K P w) (tCons (tCB (rSetN K P w) (tCons te tNil)) tNil) σ H Q
theorem pe_srtN {X : Cx} {e : Expr} {te : TE} (h : PE X e (tCB (rSrtN X.K X.prog X.w) (tCons (tCB (rSetN X.K X.prog X.w) (tCons te tNil)) tNil))) : PE X e (tSrtN X.K te) := ⟨fun pins s σ H Q I p => h.run pins s σ H Q I (p X.prog X.w)⟩
theorem ew_srtN (h : EW K cs W te G (fun x => ∃ xs : List PyData, x = .list xs ∧ SrtSetOk xs fun ks => φ (.list (srtD ks))) ε) : EW K cs W (tSrtN K te) G φ ε := fun Wd B ad H0 H σ S Q q x P w =>
  ew_ef (ef_srtN (P := P) (w := w) (χ := fun c => ∃ x, c = ol x ∧ φ (.list x)) (ew_mono h fun x ⟨xs, e, lt, kx, p⟩ => ⟨xs, e, lt, kx, fun ks a b c => ⟨(p ks a b c).1, _, rfl, (p ks a b c).2⟩⟩)) Wd B ad H0 H σ S Q q x
end
end U.N

end
section
/-! The common number divides every common multiple. -/
namespace U
open PySem PyProof.Rows L2 Evl
theorem lcI_dvd {a b c : Int} (ha : 0 < a) (hb : 0 < b) (h1 : a ∣ c) (h2 : b ∣ c) : lcI a b ∣ c := qt_of (by simp (disch := with_unfolding_all
  have e : gI a b = (Nat.gcd a.natAbs b.natAbs : Int) := by
    unfold gI gN
    have : 0 < Nat.gcd a.natAbs b.natAbs := Nat.gcd_pos_of_pos_right _ (by omega)
    omega
  obtain ⟨x, rfl⟩ : ∃ x : Nat, a = x := ⟨a.toNat, by omega⟩
  obtain ⟨y, rfl⟩ : ∃ y : Nat, b = y := ⟨b.toNat, by omega⟩
  have e1 : lcI x y = (Nat.lcm x y : Int) := by
    unfold lcI
    rw [e, Int.fdiv_eq_ediv_of_nonneg _ (Int.natCast_nonneg _)]
    show ((x : Int) * y) / ((Nat.gcd x y : Nat) : Int) = _
    unfold Nat.lcm
    norm_cast
  rw [e1]
  exact Int.ofNat_dvd_left.mpr (Nat.lcm_dvd (Int.ofNat_dvd_left.mp h1) (Int.ofNat_dvd_left.mp h2))
  ) only [↓qt_eq])
theorem cbS_dvd {a : Nat} {c : Int} : ∀ {s : List Fr} {acc : Int}, Gds' a s → 0 < acc → acc ∣ c → (∀ f ∈ s, f.2 ∣ c) → 0 < cbS acc s ∧ cbS acc s ∣ c
  | [], acc, _, h, b, _ => ⟨h, b⟩
  | f :: s, acc, g, h, b, d => by
    have gf := g f (List.mem_cons_self ..)
    exact cbS_dvd (s := s) (acc := lcI acc f.2) (fun x hx => g x (List.mem_cons_of_mem _ hx)) (lcI_spec h gf.pos).1 (lcI_dvd h gf.pos b (d f (List.mem_cons_self ..))) fun x hx => d x (List.mem_cons_of_mem _ hx)
theorem cb_dvd {a : Nat} {c : Int} : ∀ {ss : List (List Fr)} {acc : Int}, (∀ s ∈ ss, Gds' a s) → 0 < acc → acc ∣ c → (∀ s ∈ ss, ∀ f ∈ s, f.2 ∣ c) → 0 < cb acc ss ∧ cb acc ss ∣ c
  | [], acc, _, h, b, _ => ⟨h, b⟩
  | s :: ss, acc, g, h, b, d => by
    obtain ⟨l1, l2⟩ := cbS_dvd (g s (List.mem_cons_self ..)) h b (d s (List.mem_cons_self ..))
    exact cb_dvd (ss := ss) (acc := cbS acc s) (fun x hx => g x (List.mem_cons_of_mem _ hx)) l1 l2 fun x hx => d x (List.mem_cons_of_mem _ hx)
theorem bd_dvd {n : Nat} {a c : Int} (hc : 0 < c) (h : a ∣ c) (b : Bd n c) : Bd n a := by
  unfold Bd at *
  exact Nat.lt_of_le_of_lt (Nat.le_of_dvd (by omega) (Int.natAbs_dvd_natAbs.mpr h)) b
/-- numbers of a bits, the numbers below with a common multiple of N bits -/
structure CbB (a N : Nat) (ss : List Spot) : Prop where
  gd : ∀ s ∈ ss, Gds a s
  cm : ∃ c0 : Int, 0 < c0 ∧ (∀ s ∈ ss, ∀ f ∈ s, f.2 ∣ c0) ∧ Bd N c0
theorem CbB.spc {a N : Nat} {ss : List Spot} (h : CbB a N ss) : 0 < cb 1 ss ∧ (∀ s ∈ ss, SpC (cb 1 ss) s) ∧ Bd N (cb 1 ss) := qt_of (by simp (disch := with_unfolding_all
  obtain ⟨c0, h1, h2, h3⟩ := h.cm
  obtain ⟨k1, k2⟩ := cb_dvd (acc := 1) h.gd (by decide) (Int.one_dvd _) h2
  refine ⟨k1, fun s hs => ⟨⟨a, h.gd s hs⟩, ?_⟩, bd_dvd h1 k2 h3⟩
  have key : ∀ {ss : List Spot} {acc : Int}, (∀ s ∈ ss, Gds' a s) → 0 < acc → acc ∣ cb acc ss ∧ ∀ s ∈ ss, ∀ f ∈ s, f.2 ∣ cb acc ss := fun {ss} => by
    induction ss with
    | nil => intro acc _ _; exact ⟨Int.dvd_refl _, by simp⟩
    | cons s ss ih =>
      intro acc g ha
      obtain ⟨B, hB⟩ : ∃ n, Bd n acc := ⟨acc.natAbs, Nat.lt_two_pow_self⟩
      obtain ⟨l1, l2, l3, l4⟩ := cbS_spec (g s (List.mem_cons_self ..)) ha hB
      obtain ⟨i1, i2⟩ := ih (acc := cbS acc s) (fun x hx => g x (List.mem_cons_of_mem _ hx)) l1
      refine ⟨Int.dvd_trans l2 i1, fun x hx f hf => ?_⟩
      rcases List.mem_cons.mp hx with rfl | hx
      · exact Int.dvd_trans (l3 f hf) i1
      · exact i2 x hx f hf
  exact (key h.gd (by decide)).2 s hs
  ) only [↓qt_eq])
theorem CbB.of {a r : Nat} {ss : List Spot} (h : ∀ s ∈ ss, Gds a s ∧ s.length ≤ r) : CbB a (1 + ss.length * (r * a)) ss := by
  obtain ⟨h1, _, h3, h4⟩ := cb_spec (n := 1) (acc := 1) h (by decide) (by unfold Bd; decide)
  exact ⟨fun s hs => (h s hs).1, _, h1, h3, h4⟩
end U

end
section
/-! Corners round: plain geometry over the rationals. -/
namespace U.Hull
structure Pt where
  x : Rat
  y : Rat
deriving DecidableEq
noncomputable def sub (a b : Pt) : Pt := ⟨a.x - b.x, a.y - b.y⟩
/-- the area by which two steps span -/
noncomputable def cr (u v : Pt) : Rat := u.x * v.y - u.y * v.x
/-- > 0: c lies to the left of a → b -/
noncomputable def tn (a b c : Pt) : Rat := cr (sub b a) (sub c a)
/-! ### one side -/
/-! ### edges -/
end U.Hull

end
section
namespace U.Hull
/-- q lies between h and r -/
noncomputable def Btw (h r q : Pt) : Prop := (q.x - h.x) * (q.x - r.x) ≤ 0 ∧ (q.y - h.y) * (q.y - r.y) ≤ 0 ∧ tn h r q = 0
/-- q follows h round the spots P -/
noncomputable def Nx (P : List Pt) (h q : Pt) : Prop := q ∈ P ∧ q ≠ h ∧ (∀ r ∈ P, 0 ≤ tn h q r) ∧ ∀ r ∈ P, r ≠ q → ¬ Btw h r q
end U.Hull

end
section
namespace U.Hull
end U.Hull

end
section
/-! Corners round, of spots. -/
namespace U.Hull
open U
end U.Hull

end
section
/-! The body of spots in order. -/
namespace U.Hull
open U
/-! ### on a line -/
end U.Hull

end
section
/-! Land by sides and by threes. -/
namespace U.Hull
open U
end U.Hull

end
section
/-! What lies between the corners of a body. -/
namespace U.Hull
open U
/-! ### on a line -/
/-! ### bodies of more spots -/
/-! ### every spot lies in its body -/
end U.Hull

end
namespace U.N
open PySem PyProof.Rows L2 Evl
local macro_rules | `(tactic| walk_at "sd") => `(tactic| first | with_reducible assumption | omega | rfl | decide | assumption | exact Gd.mono (by assumption) (by first | decide | omega) | (simp only [List.length_map, List.length_append, List.length_cons, List.length_nil]; omega) | (simp; done))
local macro_rules | `(tactic| walk_at "ca") => `(tactic| first
  | ((with_reducible apply c_pull); (case h0 => walk_at "sd"); (case h1 => walk_at "sd"); intro _ _ _)
  | ((with_reducible apply c_farPart); intro _ _)
  | ((with_reducible apply c_ladd); (case hp => walk_at "sd"); (case hq => walk_at "sd"); (case hl => walk_at "sd"); intro _)
  | ((with_reducible apply c_cmp); (case hp => walk_at "sd"); (case hq => walk_at "sd"); (case hl => walk_at "sd"))
  | ((with_reducible apply c_spot); (case h0 => walk_at "sd"); (case hl => walk_at "sd"); intro _ _ _))
local macro_rules | `(tactic| walk_at "r1") => do
  let a ← ("ew_int ew_bl ew_tup1 ew_tup2 ew_tup ew_add ew_sub ew_mul ew_div ew_pow ew_lt ew_gt ew_neg ew_eq ew_ne ew_neD tw_test tw_B tw_yes tw_not tw_and tw_or aw_nil aw_cons ew_cP ew_c0 ew_intB ew_len ew_list ew_tuple ew_all ew_isi ow_none ow_some ew_slA ew_catA ew_lc ew_srt iw_list iw_tup iw_seq iw_rng1 sq_nx sq_rt lp_nx lp_rt sw_next sw_if sw_ret sw_for gsc_nil gsc_cons gsw_nil gsw_cons rE_ok rF_fl xi_int xi_bool xi_tup xi_list x1_bool sc_int x_nx".splitOn " ").mapM fun (n : String) => `(tacticSeq| with_reducible refine $(Lean.mkCIdent (.str (.str (.str .anonymous "U") "N") n)):ident ?_)
  let b := a.toArray
  `(tactic| first $[| $b:tacticSeq]*)
local macro_rules | `(tactic| walk_at "r2") => do
  let a ← ("ew_var:h ew_ixO:hi ew_lenO:hi ew_callB:hi ew_callWB:hi xi_it:h x1_it:h ew_dxO:hi".splitOn " ").mapM fun (m : String) => do
    let q := m.splitOn ":"
    `(tacticSeq| ((with_reducible apply $(Lean.mkCIdent (.str (.str (.str .anonymous "U") "N") (q.headD ""))):ident); (case $(Lean.mkIdent (.str .anonymous (q.getLastD ""))):ident => rfl)))
  let b := a.toArray
  `(tactic| first $[| $b:tacticSeq]*)
local macro_rules | `(tactic| walk_at "s1") => `(tactic| first
  | ((with_reducible apply x_all); (case h => exact allB_map))
  | ((with_reducible apply x_any); (case h => exact anyB_map))
  | ((with_reducible apply x_sum); (case h => exact sumI_map))
  | ((with_reducible apply ew_glob); (case h => assumption))
  | ((with_reducible apply sw_app); (case hi => rfl); (case hl => walk_at "sd"))
  | ((with_reducible apply cw_elt); (case hm => walk_at "sd"))
  | ((with_reducible apply sw_clear); (case hi => rfl))
  | ((with_reducible apply x1_rng); (case hb => walk_at "sd"))
  | ((with_reducible apply x2_rng); (case hb => walk_at "sd"); (case hc => walk_at "sd"))
  | walk_at "r2"
  | walk_at "r1"
  | with_reducible refine ew_ix ?_
  | with_reducible refine ew_callNW ?_
  | with_reducible refine ew_callN ?_
  | with_reducible refine ew_callN0 ?_
  | with_reducible refine gw_name ?_
  | ((with_reducible refine gc_name ?wa ?_); (case wa => simp))
  | ((with_reducible refine gc_tup ?wa ?_); (case wa => rfl))
  | ((with_reducible refine gw_tup ?wa ?_); (case wa => rfl))
  | with_reducible refine cnd_t ?_
  | with_reducible refine cnd_f ?_
  | with_reducible refine cnd_nt ?_
  | with_reducible refine cnd_nf ?_
  | walk_at "ca"
  | ((with_reducible apply zip_f); (case hx => rfl); (case hy => rfl))
  | ((with_reducible apply zip_t); (case hx => rfl); (case hy => rfl); (case hl => walk_at "sd"))
  | with_reducible refine sw_asg ?_
  | ((with_reducible apply sw_dset); (case hi => rfl))
  | ((with_reducible apply sw_setI); (case hi => rfl))
  | with_reducible refine sw_asgT ?_
  | refine gsw_cons ?_
  | refine gsc_cons ?_
  | refine gsw_nil ?_
  | refine gsc_nil ?_
  | with_reducible exact trivial)
local macro_rules | `(tactic| walk_at "w1") => `(tactic| first | walk_at "s1" | with_reducible refine sw_seqA ?_ | with_reducible refine sw_seqD ?_ | with_reducible refine sw_seqF ?_ | with_reducible refine sw_seqP ?_ | with_reducible refine sw_seqG ?_ | with_reducible refine sw_seqW ?_)
local macro_rules | `(tactic| walk_at "s") => `(tactic| repeat walk_at "s1")
local macro_rules | `(tactic| walk_at "ef") => `(tactic| first
  | with_reducible refine ef_lst0 ?_
  | with_reducible refine ef_lst ?_
  | with_reducible refine ef_lc ?_
  | with_reducible refine ef_list ?_
  | with_reducible refine ef_c0 ?_
  | with_reducible refine ef_dc ?_
  | with_reducible refine ef_srt ?_)
local macro_rules | `(tactic| walk_at "wi") => `(tactic| repeat (first | walk_at "w1" | with_reducible refine sw_seq ?_))
local macro_rules | `(tactic| walk_at "w") => `(tactic| repeat walk_at "w1")
section
open PySem PyProof.Rows L2 Evl

section
variable {K : Fg} {cs : Cs} {gs : Gs} {φ : PyData → Prop} {A : Rs → Prop} {ε : Xw → Prop} {w : World}
/-! ### spots in order -/
noncomputable def P_cb : Pr := fun ds A => ∃ (x : PyData) (a N : Nat) (ss : List Spot), ds = [x] ∧ itemsOf x = some (ss.map frs) ∧ CbB a N ss ∧ a ≤ 4000 ∧ N ≤ 90000 ∧ A (.ok (.int (cb 1 ss)))
noncomputable def t_common_below (K : Fg) : TS := (tSeq (tAsg (tC (V.int 1)) (gName 1))
  (tSeq (tFor (iSeq K (tVar 0)) (gName 2) (tFor (iTup K (tVar 2)) (gTup K 2 (gCons (gName 3) (gCons (gName 4) gNil))) (tAsg (tOp rDivI (tOp rMulI (tVar 1) (tVar 4)) (tCall (spP K P_gcd) [] E0 (tCons (tVar 1) (tCons (tVar 4) tNil)))) (gName 1))))
  (tRet (tVar 1))))
-- slots of common_below: 0 spots, 1 found, 2 spot, 3 above, 4 below
theorem ln_common_below : ∀ ds A, P_cb ds A → ds.length = 1 := fun ds A h => by obtain ⟨_, _, _, _, rfl, _⟩ := h; rfl
theorem cb_snoc {acc : Int} {ss : List Spot} {s : Spot} : cb acc (ss ++ [s]) = cbS (cb acc ss) s := by unfold cb; rw [List.foldl_append]; rfl
theorem cbS_snoc {acc : Int} {s : Spot} {f : Fr} : cbS acc (s ++ [f]) = lcI (cbS acc s) f.2 := by unfold cbS; rw [List.foldl_append]; rfl
theorem Bd.g2 {n : Nat} {a b : Int} (hb : Bd n b) (h0 : b ≠ 0) : Bd n (gI a b) := by
  have h1 : Nat.gcd a.natAbs b.natAbs ≤ b.natAbs := Nat.gcd_le_right _ (by omega)
  have h2 : gN a b ≤ b.natAbs := Nat.max_le.mpr ⟨h1, by omega⟩
  unfold Bd gI at *
  rw [Int.natAbs_natCast]
  omega
theorem c_gcd {a b : Int} (h : φ (.int (gI a b))) : ∃ r, P_gcd [.int a, .int b] r ∧ φ r := ⟨_, ⟨a, b, rfl, rfl⟩, h⟩
theorem rd_common_below {ds A} (h : P_cb ds A) : SW K cs W0 (t_common_below K) (frame 5 ds) (rts0 A) := qt_of (by simp (disch := with_unfolding_all
  obtain ⟨x, a, N, ss, rfl, hx, hs, ha, hN, h⟩ := h
  obtain ⟨c0, c1, c2, c3⟩ := hs.cm
  unfold t_common_below
  walk_at "w"
  refine ⟨_, hx, forP (fun pre G => ∃ e2 e3 e4, G = [.d x, .d (.int (cb 1 pre)), e2, e3, e4]) ⟨_, _, _, rfl⟩ ?_ ?_⟩
  · rintro pre s post G1 e ⟨e2, e3, e4, rfl⟩
    have ms : s ∈ ss := by rw [e]; simp
    have mp : ∀ t ∈ pre, t ∈ ss := fun t ht => by rw [e]; simp [ht]
    obtain ⟨p1, p2⟩ := cb_dvd (acc := 1) (fun t ht => hs.gd t (mp t ht)) (by decide) (Int.one_dvd _) (fun t ht => c2 t (mp t ht))
    walk_at "w"
    refine forP (fun pr G => ∃ e3 e4, G = [.d x, .d (.int (cbS (cb 1 pre) pr)), .d (frs s), e3, e4]) ⟨_, _, rfl⟩ ?_ ?_
    · rintro pr f po G2 e' ⟨e3, e4, rfl⟩
      have mf : f ∈ s := by rw [e']; simp
      have mp' : ∀ t ∈ pr, t ∈ s := fun t ht => by rw [e']; simp [ht]
      have gf := hs.gd s ms f mf
      obtain ⟨q1, q2⟩ := cbS_dvd (fun t ht => hs.gd s ms t (mp' t ht)) p1 p2 (fun t ht => c2 s ms t (mp' t ht))
      have bt := bd_dvd c1 q2 c3
      walk_at "w"
      refine ⟨bt.cm gf.sz.2 (by omega), ?_⟩
      walk_at "w"
      refine c_gcd ?_
      walk_at "w"
      refine ⟨Bd.dv (n := 4000) (Int.ne_of_gt (gI_pos _ _)) (Bd.g2 (gf.sz.2.mono ha) gf.ne) (by decide), ?_⟩
      walk_at "w"
      exact ⟨_, _, by rw [cbS_snoc]; rfl⟩
    · rintro G2 ⟨e3, e4, rfl⟩
      exact ⟨_, _, _, by rw [cb_snoc]⟩
  · rintro G1 ⟨e2, e3, e4, rfl⟩
    walk_at "w"
    exact h
  ) only [↓qt_eq])
noncomputable def P_wr : Pr := fun ds A => ∃ (a : Nat) (s : Spot) (c : Int), ds = [frs s, .int c] ∧ Gds a s ∧ a ≤ 4000 ∧ s.length ≤ 1000 ∧ Bd 100000 c ∧ A (.ok (.list (inz (ky c s))))
noncomputable def t_whole_row (K : Fg) : TS := (tRet (tLc (iTup K (tVar 0)) (gTup K 2 (gCons (gName 2) (gCons (gName 3) gNil))) tYes (tOp rMulI (tVar 2) (tOp rDivI (tVar 1) (tVar 3))) [2, 3]))
-- slots of whole_row: 0 spot, 1 common, 2 above, 3 below
theorem ln_whole_row : ∀ ds A, P_wr ds A → ds.length = 2 := fun ds A h => by obtain ⟨_, _, _, rfl, _⟩ := h; rfl
theorem rd_whole_row {ds A} (h : P_wr ds A) : SW K cs W0 (t_whole_row K) (frame 4 ds) (rts0 A) := qt_of (by simp (disch := with_unfolding_all
  obtain ⟨a, s, c, rfl, hs, ha, hl, hc, h⟩ := h
  unfold t_whole_row
  walk_at "w"
  refine lcM (f := fr) (fun f => .int (kyF c f)) (by omega) (unk2 rfl rfl) (fun f mf => ?_) ?_
  · have gf := hs f mf
    walk_at "w"
    refine ⟨Bd.dv (n := 4000) gf.ne (gf.sz.2.mono ha) (by decide), ?_⟩
    walk_at "w"
    exact ⟨(gf.sz.1.mono ha).cm (hc.fdiv _) (by decide), rfl⟩
  · refine ⟨_, rfl, ?_⟩
    show A _
    unfold inz ky at h
    rw [List.map_map] at h
    exact h
  ) only [↓qt_eq])
noncomputable def P_rising : Pr := fun ds A => ∃ (x : PyData) (a N : Nat) (ss ys : List Spot), ds = [x] ∧ itemsOf x = some (ss.map frs) ∧ CbB a N ss ∧ a ≤ 4000 ∧ N ≤ 90000 ∧ (∀ s ∈ ss, s ≠ []) ∧ ss.length ≤ 2000000 ∧ (∀ s ∈ ss, s.length ≤ 1000) ∧ Rising ss ys ∧ A (.fl (ol (ys.map frs)))
noncomputable def t_rising (K : Fg) (w : World) : TS := (tSeq (tAsg (tCall (spW0 K P_cb) [] E0 (tCons (tVar 0) tNil)) (gName 1))
  (tSeq (tAsg (tDcd K w (iSeq K (tVar 0)) (gName 3) tYes (tCB (rTupQ K) (tCons (tCall (spW0 K P_wr) [] E0 (tCons (tVar 3) (tCons (tVar 1) tNil))) tNil)) (tVar 3) [3]) (gName 2))
  (tRet (tLc (iList K (tCB (rSrtD K w) (tCons (tVar 2) tNil))) (gName 4) tYes (tOp (rDx K w) (tVar 2) (tVar 4)) [4]))))
-- slots of rising: 0 spots, 1 common, 2 by_worth, 3 spot, 4 key
theorem ln_rising : ∀ ds A, P_rising ds A → ds.length = 1 := fun ds A h => by obtain ⟨_, _, _, _, _, rfl, _⟩ := h; rfl
/-! what a dict by a comprehension holds -/
section
variable {κ β γ : Type} [DecidableEq κ]
noncomputable def amap (m : List (κ × β)) (xs : List γ) (k : γ → κ) (v : γ → β) : List (κ × β) := xs.foldl (fun m x => aput m (k x) (v x)) m
theorem putAll_enc {ek : κ → List PyData} {ev : β → PyData} (inj : ∀ a b, kk (ek a) = kk (ek b) → a = b) (k : γ → κ) (v : γ → β) (xs : List γ) : putAll (xs.map fun x => some (ek (k x), ev (v x))) = encM ek ev (amap [] xs k v) := by
  have key : ∀ (xs : List γ) (m : List (κ × β)), (xs.map fun x => some (ek (k x), ev (v x))).foldl putO (encM ek ev m) = encM ek ev (amap m xs k v) := fun xs => by
    induction xs with
    | nil => intro m; rfl
    | cons x xs ih =>
      intro m
      rw [List.map_cons, List.foldl_cons]
      show (xs.map fun x => some (ek (k x), ev (v x))).foldl putO (putK (encM ek ev m) (ek (k x)) (ev (v x))) = _
      rw [put_enc inj, ih]
      rfl
  exact key xs []
theorem amap_get (k : γ → κ) (v : γ → β) (j : κ) : ∀ (xs : List γ) (m : List (κ × β)), (∃ x ∈ xs, k x = j ∧ aget (amap m xs k v) j = some (v x)) ∨ ((∀ x ∈ xs, k x ≠ j) ∧ aget (amap m xs k v) j = aget m j)
  | [], m => .inr ⟨(fun _ h => nomatch h), rfl⟩
  | x :: xs, m => by
    rcases amap_get k v j xs (aput m (k x) (v x)) with ⟨y, h1, h2, h3⟩ | ⟨h1, h2⟩
    · exact .inl ⟨y, List.mem_cons_of_mem _ h1, h2, h3⟩
    · by_cases e : k x = j
      · refine .inl ⟨x, List.mem_cons_self .., e, ?_⟩
        show aget (amap (aput m (k x) (v x)) xs k v) j = _
        rw [h2, aget_aput, if_pos e.symm]
      · refine .inr ⟨fun y hy => ?_, ?_⟩
        · rcases List.mem_cons.mp hy with rfl | hy
          · exact e
          · exact h1 y hy
        · show aget (amap (aput m (k x) (v x)) xs k v) j = _
          rw [h2, aget_aput, if_neg fun z => e z.symm]
theorem amap_keys (k : γ → κ) (v : γ → β) : ∀ (xs : List γ) (m : List (κ × β)), (m.map (·.1)).Nodup → ((amap m xs k v).map (·.1)).Nodup
  | [], m, h => h
  | x :: xs, m, h => amap_keys k v xs _ (aput_keys h)
theorem amap_mem {k : γ → κ} {v : γ → β} {xs : List γ} {j : κ} : j ∈ (amap [] xs k v).map (·.1) ↔ ∃ x ∈ xs, k x = j := qt_of (by simp (disch := with_unfolding_all
  rcases amap_get k v j xs [] with ⟨y, h1, h2, h3⟩ | ⟨h1, h2⟩
  · exact ⟨fun _ => ⟨y, h1, h2⟩, fun _ => List.mem_map.mpr ⟨_, aget_mem h3, rfl⟩⟩
  · constructor
    · intro h
      obtain ⟨p, hp, rfl⟩ := List.mem_map.mp h
      exact absurd rfl (aget_none.mp h2 p hp)
    · rintro ⟨x, hx, e⟩
      exact absurd e (h1 x hx)
  ) only [↓qt_eq])
end
/-- the spots by their keys, in order -/
noncomputable def risL (c : Int) (ss : List Spot) : List Spot := (srtI ((amap [] ss (ky c) id).map (·.1))).map fun j => (aget (amap [] ss (ky c) id) j).getD []
theorem ris_get {c : Int} {ss : List Spot} {j : List Int} (hj : j ∈ srtI ((amap [] ss (ky c) id).map (·.1))) : ∃ s ∈ ss, ky c s = j ∧ aget (amap [] ss (ky c) id) j = some s := by
  obtain ⟨x, hx, e⟩ := amap_mem.mp (srtI_mem.mp hj)
  rcases amap_get (ky c) id j ss [] with h | ⟨h1, h2⟩
  · exact h
  · exact absurd e (h1 x hx)
theorem risL_rising {c : Int} {ss : List Spot} (hc : 0 < c) (hs : ∀ s ∈ ss, SpC c s) : Rising ss (risL c ss) := by
  have hn : ((amap [] ss (ky c) id).map (·.1)).Nodup := amap_keys _ _ _ _ List.nodup_nil
  refine ⟨?_, fun s => ?_⟩
  · unfold risL
    rw [List.pairwise_map]
    refine (srtI_lt hn).imp_of_mem fun {a b} ha hb h => ?_
    obtain ⟨s, ms, e1, e2⟩ := ris_get ha
    obtain ⟨t, mt, e3, e4⟩ := ris_get hb
    rw [e2, e4]
    rw [← e1, ← e3] at h
    exact (ky_slt hc (hs s ms) (hs t mt)).mp h
  · unfold risL
    constructor
    · intro h
      obtain ⟨j, hj, rfl⟩ := List.mem_map.mp h
      obtain ⟨t, mt, e3, e4⟩ := ris_get hj
      rw [e4]; exact mt
    · intro h
      have hj : ky c s ∈ srtI ((amap [] ss (ky c) id).map (·.1)) := srtI_mem.mpr (amap_mem.mpr ⟨s, h, rfl⟩)
      refine List.mem_map.mpr ⟨ky c s, hj, ?_⟩
      obtain ⟨t, mt, e3, e4⟩ := ris_get hj
      rw [e4]
      exact ky_inj hc (hs t mt) (hs s h) e3
theorem c_wr {a : Nat} {s : Spot} {c : Int} (hs : Gds a s) (ha : a ≤ 4000) (hl : s.length ≤ 1000) (hc : Bd 100000 c) (h : φ (.list (inz (ky c s)))) : P_wr [frs s, .int c] (rE φ ε) := ⟨a, s, c, rfl, hs, ha, hl, hc, h⟩
theorem rd_rising {ds A} (h : P_rising ds A) : SW K cs W0 (t_rising K w) (frame 5 ds) (rts0 A) := qt_of (by simp (disch := with_unfolding_all
  obtain ⟨x, a, N, ss, ys, rfl, hx, hs, ha, hN, hne, hz, hr0, hr, h⟩ := h
  obtain ⟨c1, c2, c3⟩ := hs.spc
  unfold t_rising
  walk_at "w"
  refine ⟨x, a, N, ss, rfl, hx, hs, ha, hN, ?_⟩
  show SW _ _ _ _ _ _
  refine sw_seq (sw_asgF ?_)
  walk_at "ef"
  walk_at "w"
  refine ⟨_, hx, dcM (f := frs) (fun s => inz (ky (cb 1 ss) s)) (fun s => frs s) (by omega) (unk1 rfl) (fun s ms => ?_) fun ep => ?_⟩
  · walk_at "w"
    refine c_wr (hs.gd s ms) ha (hr0 s ms) (c3.mono (by omega)) ?_
    walk_at "w"
    exact ⟨rfl, kg_ints _, rfl⟩
  · show SW _ _ _ _ _ _
    have ee : putAll (ss.map fun x => some (inz (ky (cb 1 ss) x), frs x)) = encM inz frs (amap [] ss (ky (cb 1 ss)) id) := putAll_enc (ek := inz) (ev := frs) kk_inj (ky (cb 1 ss)) id ss
    have el := putAll_len (ss.map fun x => some (inz (ky (cb 1 ss) x), frs x))
    rw [ee, List.length_map] at el
    rw [ee]
    have ek : (encM inz frs (amap [] ss (ky (cb 1 ss)) id)).map (fun q => PyData.tuple q.1) = ((amap [] ss (ky (cb 1 ss)) id).map (·.1)).map fun j => PyData.tuple (inz j) := by
      unfold encM
      rw [List.map_map, List.map_map]
      rfl
    have en : ∀ j ∈ (amap [] ss (ky (cb 1 ss)) id).map (·.1), j ≠ [] := fun j hj => by
      obtain ⟨s, ms, rfl⟩ := amap_mem.mp hj
      exact fun z => hne s ms (List.map_eq_nil_iff.mp z)
    have hlen : (srtI ((amap [] ss (ky (cb 1 ss)) id).map (·.1))).length ≤ 16000000 := by
      unfold srtI
      unfold encM at el
      rw [List.length_map] at el
      rw [List.length_mergeSort, List.length_map]
      omega
    refine sw_retF (ef_lc (iw_list (ew_srtD (.inl rfl) (by rw [ek]; exact ok_tups en) ⟨_, rfl, ?_⟩)))
    rw [ek, srt_tups]
    refine lcM (fun j => frs ((aget (amap [] ss (ky (cb 1 ss)) id) j).getD [])) hlen (unk1 rfl) (fun j mj => ?_) ?_
    · obtain ⟨t, mt, e3, e4⟩ := ris_get mj
      walk_at "w"
      refine ⟨_, frs t, rfl, kg_ints _, ?_, ?_⟩
      · rw [look_enc (ek := inz) kk_inj, e4]; rfl
      · rw [e4]; rfl
    · have e : ys = risL (cb 1 ss) ss := rising_uniq hr (risL_rising c1 c2)
      rw [e] at h
      unfold risL at h
      rw [List.map_map] at h
      exact h
  ) only [↓qt_eq])
end


end
section
open PySem PyProof.Rows L2 Evl

section
variable {K : Fg} {cs : Cs} {gs : Gs} {φ : PyData → Prop} {A : Rs → Prop} {ε : Xw → Prop} {w : World}
/-! ### the law's own order -/
-- slots of _law_below: 0 _law_spots_here, 1 _law_found, 2 _law_spot_here, 3 _law_one
-- slots of _law_key: 0 _law_spots_here, 1 _law_below_here, 2 _law_found, 3 _law_spot_here, 4 _law_one
-- slots of _law_rising: 0 _law_spots_here, 1 _law_below_here, 2 _law_keys, 3 _law_found, 4 _law_key_here, 5 _law_spot_here, 6 _law_one
theorem sh_frss {fs : List Spot} (hl : fs.length ≤ 100000) (h : ∀ s ∈ fs, s.length ≤ 1000) : SeqAt.shaped (.list (fs.map frs)) = true := shaped_ok (n := 3) (can_list fun x hx => by
    obtain ⟨s, _, rfl⟩ := List.mem_map.mp hx
    exact can_frs s) (okD_list (by rw [List.length_map]; omega) fun x hx => by
    obtain ⟨s, ms, rfl⟩ := List.mem_map.mp hx
    exact okD_frs (n := 0) (by have := h s ms; omega)) (by decide)
end


end
section
open PySem PyProof.Rows L2 Evl U.Hull

section
variable {K : Fg} {cs : Cs} {gs : Gs} {φ : PyData → Prop} {A : Rs → Prop} {ε : Xw → Prop} {w : World}
/-! ### corners round -/
-- slots of hull_side: 0 spots, 1 found, 2 spot
end


end
section
open PySem PyProof.Rows L2 Evl U.Hull

section
variable {K : Fg} {cs : Cs} {gs : Gs} {φ : PyData → Prop} {A : Rs → Prop} {ε : Xw → Prop} {w : World}
-- slots of corners_round: 0 spots, 1 row, 2 below, 3 above
end


end
section
open PySem PyProof.Rows L2 Evl U.Hull

section
variable {K : Fg} {cs : Cs} {gs : Gs} {φ : PyData → Prop} {A : Rs → Prop} {ε : Xw → Prop} {w : World}
/-! ### the law's own body -/
noncomputable instance (h r q : Pt) : Decidable (Btw h r q) := by unfold Btw; exact inferInstance
-- slots of _law_between: 0 _law_one, 1 _law_two, 2 _law_spot_here, 3 _law_at
theorem cmp_val {n m : Nat} {p q : Fr} (hp : Gd n p) (hq : Gd m q) : cmpF p q = sgnQ (val p - val q) := by rw [← ord_val hp hq, ord_sgn]; rfl
/-! what follows a corner -/
noncomputable instance (P : List Pt) (h q : Pt) : Decidable (Nx P h q) := by unfold Nx; exact inferInstance
-- slots of _law_next: 0 _law_row, 1 _law_here, 2 _law_spot_here, 3 _law_one
end


end
section
open PySem PyProof.Rows L2 Evl U.Hull

section
variable {K : Fg} {cs : Cs} {gs : Gs} {φ : PyData → Prop} {A : Rs → Prop} {ε : Xw → Prop} {w : World}
-- slots of _law_body: 0 _law_spots_here, 1 _law_row, 2 _law_found, 3 _law_step, 4 _law_spot_here
end


end
section
open PySem PyProof.Rows L2 Evl U.Hull

section
variable {K : Fg} {cs : Cs} {gs : Gs} {φ : PyData → Prop} {A : Rs → Prop} {ε : Xw → Prop} {w : World}
/-! ### drawn rooms and spots -/
noncomputable def P_room : Pr := fun ds A => ds = [] ∧ ∀ r : Nat, r = 1 ∨ r = 2 → A (.ok (.int r))
noncomputable def t__law_room (K : Fg) : TS := (tRet (tOp rSubI (tC (V.int 2)) (tCB rInt1 (tCons (tOp rEq (tCall (spB K P_pull) [] E0 (tCons (tVar 0) (tCons (tC (V.int 3)) tNil))) (tC (V.int 0))) tNil))))
-- slots of _law_room: 0 _law_bag_here
theorem ln__law_room : ∀ ds A, P_room ds A → ds.length + 1 = 1 := fun ds A h => by obtain ⟨rfl, _⟩ := h; rfl
theorem rd__law_room {ds A} (h : P_room ds A) : SW K cs W0 (t__law_room K) (.bag :: frame 0 ds) (rts0 A) := qt_of (by simp (disch := with_unfolding_all
  obtain ⟨rfl, h⟩ := h
  unfold t__law_room
  walk_at "w"
  rename_i v h0 h1
  by_cases e : v = 0
  · rw [if_pos (by simpa using e)]
    exact h 1 (.inl rfl)
  · rw [if_neg (by simpa using e)]
    exact h 2 (.inr rfl)
  ) only [↓qt_eq])
theorem c_room (h : ∀ r : Nat, r = 1 ∨ r = 2 → φ (.int r)) : P_room [] (rE φ ε) := ⟨rfl, h⟩
/-- spots of a room -/
noncomputable def Sps (a r : Nat) (ss : List Spot) : Prop := ∀ s ∈ ss, Gds a s ∧ s.length = r
theorem Sps.mono {a b r : Nat} {ss : List Spot} (h : Sps a r ss) (l : a ≤ b) : Sps b r ss := fun s hs => ⟨(h s hs).1.mono l, (h s hs).2⟩
theorem Sps.snoc {a r : Nat} {ss : List Spot} {s : Spot} (h : Sps a r ss) (g : Gds a s) (l : s.length = r) : Sps a r (ss ++ [s]) := fun t ht => by
  rcases List.mem_append.mp ht with ht | ht
  · exact h t ht
  · rw [List.mem_singleton.mp ht]; exact ⟨g, l⟩
theorem atI_in {α : Type} {f : α → PyData} {xs : List α} {j : Int} (h0 : 0 ≤ j) (h1 : j < xs.length) : ∃ s ∈ xs, atI (xs.map f) j = some (f s) := by
  obtain ⟨k, rfl⟩ := Int.eq_ofNat_of_zero_le h0
  have hk : k < xs.length := by omega
  exact ⟨xs[k], List.getElem_mem _, atI_nat (by rw [List.getElem?_map, List.getElem?_eq_getElem hk]; rfl)⟩
-- slots of _law_spots: 0 _law_bag_here, 1 _law_rank, 2 _law_limit, 3 _law_many, 4 _law_found, 5 _law_kind, 6 _law_one, 7 _law_two, 8 _law_at
-- slots of _law_wide_spots: 0 _law_bag_here, 1 _law_rank, 2 _law_limit, 3 _law_found, 4 _law_k, 5 _law_at
end


end
section
open PySem PyProof.Rows L2 Evl U.Hull

section
variable {K : Fg} {cs : Cs} {gs : Gs} {φ : PyData → Prop} {A : Rs → Prop} {ε : Xw → Prop} {w : World}
/-! ### spots, sorted as data -/
noncomputable def flatZ : Spot → List Int
  | [] => []
  | f :: s => f.1 :: f.2 :: flatZ s
noncomputable def unf : List Int → List PyData
  | a :: b :: r => .tuple [.int a, .int b] :: unf r
  | _ => []
theorem unf_flat : ∀ s : Spot, frs s = .tuple (unf (flatZ s))
  | [] => rfl
  | f :: s => by
    have h := unf_flat s
    injection h with h
    show PyData.tuple (fr f :: s.map fr) = .tuple (fr f :: unf (flatZ s))
    rw [h]
theorem flat_inj : ∀ {s t : Spot}, flatZ s = flatZ t → s = t
  | [], [], _ => rfl
  | [], g :: t, h => by cases h
  | f :: s, [], h => by cases h
  | f :: s, g :: t, h => by
    have h : f.1 :: f.2 :: flatZ s = g.1 :: g.2 :: flatZ t := h
    injection h with h1 h2
    injection h2 with h2 h3
    rw [flat_inj h3, Prod.ext h1 h2]
theorem row_unf : ∀ s t : Spot, PySem.W.rowLt (unf (flatZ s)) (unf (flatZ t)) = decide (flatZ s < flatZ t)
  | [], [] => by rw [decide_eq_false (List.lt_irrefl _)]; rfl
  | [], g :: t => by
    have : flatZ [] < flatZ (g :: t) := List.nil_lt_cons _ _
    rw [decide_eq_true this]
    rfl
  | f :: s, [] => by
    have : ¬ (flatZ (f :: s) < flatZ []) := List.not_lt_nil _
    rw [decide_eq_false this]
    rfl
  | f :: s, g :: t => by
    show PySem.W.rowLt (fr f :: unf (flatZ s)) (fr g :: unf (flatZ t)) = decide (f.1 :: f.2 :: flatZ s < g.1 :: g.2 :: flatZ t)
    unfold PySem.W.rowLt
    rw [PySem.W.dataLt_cons (by rfl)]
    rw [eqv_fr]
    have ih := row_unf s t
    unfold PySem.W.rowLt at ih
    by_cases e : f = g
    · rw [if_pos (decide_eq_true e), ih, e]
      congr 1
      simp [List.cons_lt_cons_iff]
    · rw [if_neg (by simp [e])]
      refine (PySem.W.dataLt_ii f.1 f.2 g.1 g.2).trans ?_
      rw [decide_eq_decide, List.cons_lt_cons_iff, List.cons_lt_cons_iff]
      have ne : ¬ (f.1 = g.1 ∧ f.2 = g.2) := fun z => e (Prod.ext z.1 z.2)
      constructor
      · rintro (h | ⟨h1, h2⟩)
        · exact .inl h
        · exact .inr ⟨h1, .inl h2⟩
      · rintro (h | ⟨h1, h2 | ⟨h2, _⟩⟩)
        · exact .inl h
        · exact .inr ⟨h1, h2⟩
        · exact (ne ⟨h1, h2⟩).elim
theorem srt_spots (ss : List Spot) : srtD (ss.map frs) = (srtI (ss.map flatZ)).map fun a => .tuple (unf a) := qt_of (by simp (disch := with_unfolding_all
  have e : ss.map frs = (ss.map flatZ).map fun a => .tuple (unf a) := by
    rw [List.map_map]
    exact List.map_congr_left fun s _ => unf_flat s
  rw [e]
  unfold srtD srtI
  refine (List.map_mergeSort fun a ha b hb => ?_).symm
  obtain ⟨s, _, rfl⟩ := List.mem_map.mp ha
  obtain ⟨t, _, rfl⟩ := List.mem_map.mp hb
  show decide (flatZ s ≤ flatZ t) = !PySem.W.rowLt (unf (flatZ t)) (unf (flatZ s))
  rw [row_unf, le_not]
  ) only [↓qt_eq])
/-- sorted tells of unlike spots what they are -/
theorem srt_same {ss ts : List Spot} (h1 : ss.Nodup) (h2 : ts.Nodup) (h : ∀ s, s ∈ ss ↔ s ∈ ts) : srtD (ss.map frs) = srtD (ts.map frs) := qt_of (by simp (disch := with_unfolding_all
  have nd : ∀ {l : List Spot}, l.Nodup → (l.map flatZ).Nodup := fun n => List.pairwise_map.mpr (n.imp fun ne e => ne (flat_inj e))
  rw [srt_spots, srt_spots]
  congr 1
  refine pw_uniq (R := (· < ·)) (fun x => List.lt_irrefl x) (fun x y => List.lt_asymm) (srtI_lt (nd h1)) (srtI_lt (nd h2)) fun a => ?_
  rw [srtI_mem, srtI_mem, List.mem_map, List.mem_map]
  constructor
  · rintro ⟨s, hs, e⟩; exact ⟨s, (h s).mp hs, e⟩
  · rintro ⟨s, hs, e⟩; exact ⟨s, (h s).mpr hs, e⟩
  ) only [↓qt_eq])
theorem alike_frs : ∀ s t : Spot, PySem.W.alike (frs s) (frs t) = true := fun s t => by
  have key : ∀ s t : Spot, PySem.W.alikeAll (s.map fr) (t.map fr) = true := fun s => by
    induction s with
    | nil => intro t; simp [PySem.W.alikeAll]
    | cons f s ih =>
      intro t
      cases t with
      | nil => simp [PySem.W.alikeAll]
      | cons g t =>
        show PySem.W.alikeAll (fr f :: s.map fr) (fr g :: t.map fr) = true
        rw [PySem.W.alikeAll, ih t]
        rfl
  exact key s t
theorem depth_frs (s : Spot) : (frs s).depth ≤ 2 := qt_of (by simp (disch := with_unfolding_all
  have key : PyData.depthAll (s.map fr) ≤ 1 := by
    induction s with
    | nil => simp [PyData.depthAll]
    | cons f s ih =>
      have : (fr f).depth = 1 := by simp [PyData.depth, PyData.depthAll]
      rw [List.map_cons, PyData.depthAll, this]
      omega
  rw [PyData.depth]
  omega
  ) only [↓qt_eq])
theorem sok_spots {ss : List Spot} (h : ∀ s ∈ ss, s ≠ []) : SrtOk (ss.map frs) := by
  refine ⟨fun d hd d' hd' => ?_, .inl fun d hd => ?_, fun d hd => ?_⟩
  · obtain ⟨s, _, rfl⟩ := List.mem_map.mp hd
    obtain ⟨t, _, rfl⟩ := List.mem_map.mp hd'
    exact alike_frs s t
  · obtain ⟨s, hs, rfl⟩ := List.mem_map.mp hd
    cases s with
    | nil => exact absurd rfl (h [] hs)
    | cons f s => exact ⟨_, _, rfl⟩
  · obtain ⟨s, _, rfl⟩ := List.mem_map.mp hd
    have := depth_frs s
    omega
/-! ### keys -/
noncomputable def kyS (s : Spot) : NK := .tup (s.map fun f => .tup [.num f.1, .num f.2])
theorem tok_frs (s : Spot) : toK (frs s) = some (kyS s) := qt_of (by simp (disch := with_unfolding_all
  have key : toKs (s.map fr) = some (s.map fun f => NestedKey.tup [.num f.1, .num f.2]) := by
    induction s with
    | nil => rfl
    | cons f s ih =>
      show ((toK (fr f)).bind fun k => (toKs (s.map fr)).map (k :: ·)) = _
      rw [ih]
      rfl
  show (toKs (s.map fr)).map NestedKey.tup = _
  rw [key]
  rfl
  ) only [↓qt_eq])
theorem kys_inj {s t : Spot} (h : kyS s = kyS t) : s = t := qt_of (by simp (disch := with_unfolding_all
  have key : ∀ {s t : Spot}, (s.map fun f => NestedKey.tup [.num f.1, .num f.2]) = (t.map fun f => NestedKey.tup [.num f.1, .num f.2]) → s = t := fun {s} => by
    induction s with
    | nil => intro t h; cases t with | nil => rfl | cons g t => cases h
    | cons f s ih =>
      intro t h
      cases t with
      | nil => cases h
      | cons g t =>
        rw [List.map_cons, List.map_cons] at h
        injection h with h1 h2
        injection h1 with h1
        injection h1 with h1 h3
        injection h1 with h1
        injection h3 with h3
        injection h3 with h3
        rw [ih h2, Prod.ext h1 h3]
  injection h with h
  exact key h
  ) only [↓qt_eq])
theorem kyD_frs (s : Spot) : kyD (frs s) = kyS s := by unfold kyD; rw [tok_frs]; rfl
theorem keyd_frs (s : Spot) : KyD (frs s) := by
  refine ⟨kyS s, tok_frs s, ?_, ?_⟩
  · have key : NestedKey.depthAll (s.map fun f => NestedKey.tup [.num f.1, .num f.2]) ≤ 2 := by
      induction s with
      | nil => simp [NestedKey.depthAll]
      | cons f s ih =>
        rw [List.map_cons, NestedKey.depthAll]
        have : NestedKey.depth (.tup [.num f.1, .num f.2]) ≤ 2 := by simp [NestedKey.depth, NestedKey.depthAll]
        omega
    unfold kyS
    rw [NestedKey.depth]
    omega
  · have key : NumKs (s.map fun f => NestedKey.tup [.num f.1, .num f.2]) = true := by
      induction s with
      | nil => rfl
      | cons f s ih =>
        show (NumK _ && NumKs _) = true
        rw [ih]
        rfl
    exact key
/-- sorted(set(spots)): what is told is sorted(ys), ys the spots, each once -/
theorem srt_set {ss ys : List Spot} {p : List PyData → Prop} (hl : ss.length < 64) (hn : ∀ s ∈ ss, s ≠ []) (nd : ys.Nodup) (mem : ∀ s, s ∈ ys ↔ s ∈ ss) (h : ∀ ks, srtD ks = srtD (ys.map frs) → p ks) : SrtSetOk (ss.map frs) p := by
  refine ⟨by rw [List.length_map]; exact hl, fun x hx => ?_, fun ks k1 k2 k3 => ?_⟩
  · obtain ⟨s, _, rfl⟩ := List.mem_map.mp hx
    exact ⟨trivial, keyd_frs s⟩
  · obtain ⟨zs, rfl, hz⟩ := map_back k2
    rw [List.map_map] at k1 k3
    have z1 : zs.Nodup := List.Pairwise.of_map (f := kyD ∘ frs) (fun a b ne e => ne (congrArg (kyD ∘ frs) e)) k1
    have z2 : ∀ s, s ∈ zs ↔ s ∈ ss := fun s => by
      refine ⟨hz s, fun hs => ?_⟩
      obtain ⟨t, ht, e⟩ := List.mem_map.mp (k3 (frs s) (List.mem_map.mpr ⟨s, hs, rfl⟩))
      have e : kyD (frs t) = kyD (frs s) := e
      rw [kyD_frs, kyD_frs] at e
      rw [← kys_inj e]
      exact ht
    refine ⟨sok_spots fun s hs => hn s (hz s hs), ?_⟩
    exact h _ (srt_same z1 nd fun s => (z2 s).trans (mem s).symm)
/-! ### one spot ahead of another -/
noncomputable instance decLt : (s t : Spot) → Decidable (sLt s t)
  | [], [] => isFalse id
  | [], _ :: _ => isTrue trivial
  | _ :: _, [] => isFalse id
  | f :: s, g :: t => by
    unfold sLt
    have := decLt s t
    exact inferInstance
noncomputable def P_lbefore : Pr := fun ds A => ∃ (r : Nat) (s t : Spot), ds = [frs s, frs t] ∧ (r = 1 ∨ r = 2) ∧ Gds 900 s ∧ s.length = r ∧ Gds 900 t ∧ t.length = r ∧ A (.ok (.bool (decide (sLt s t))))
noncomputable def t__law_before (K : Fg) : TS := (tSeq (tFor (iRng1 (tCons (tCB (rLenQ K) (tCons (tVar 0) tNil)) tNil)) (gName 2) (tSeq (tAsg (tCall (spP K P_cmp) [] E0 (tCons (tOp (rIx K) (tVar 0) (tVar 2)) (tCons (tOp (rIx K) (tVar 1) (tVar 2)) tNil))) (gName 3))
  (tIfS (tTest (tOp rNe (tVar 3) (tC (V.int 0)))) (tRet (tOp rLtI (tVar 3) (tC (V.int 0)))) tNext)))
  (tRet (tC (V.bl false))))
-- slots of _law_before: 0 _law_one, 1 _law_other, 2 _law_at, 3 _law_side
theorem ln__law_before : ∀ ds A, P_lbefore ds A → ds.length = 2 := fun ds A h => by obtain ⟨_, _, _, rfl, _⟩ := h; rfl
theorem slt_drop : ∀ {s t : Spot} {i : Nat}, s.length = t.length → (∀ j, j < i → ∃ a b, s[j]? = some a ∧ t[j]? = some b ∧ val a = val b) → (sLt s t ↔ sLt (s.drop i) (t.drop i))
  | s, t, 0, _, _ => by simp
  | [], [], i + 1, _, _ => by simp
  | [], g :: t, i + 1, l, _ => by simp at l
  | f :: s, [], i + 1, l, _ => by simp at l
  | f :: s, g :: t, i + 1, l, h => by
    obtain ⟨a, b, e1, e2, e3⟩ := h 0 (by omega)
    simp at e1 e2
    subst e1; subst e2
    rw [List.drop_succ_cons, List.drop_succ_cons, ← slt_drop (by simpa using l) fun j hj => by simpa using h (j + 1) (by omega)]
    show (val f < val g ∨ (val f = val g ∧ sLt s t)) ↔ _
    constructor
    · rintro (z | z)
      · rw [e3] at z; exact (Rat.lt_irrefl z).elim
      · exact z.2
    · exact fun z => .inr ⟨e3, z⟩
theorem rd__law_before {ds A} (h : P_lbefore ds A) : SW K cs W0 (t__law_before K) (frame 4 ds) (rts0 A) := qt_of (by simp (disch := with_unfolding_all
  obtain ⟨r, s, t, rfl, hr, hs, ls, ht, lt, h⟩ := h
  unfold t__law_before
  walk_at "w"
  rw [List.length_map, show ((s.length : Nat) : Int).toNat = s.length from rfl]
  refine forN (fun i G => (∃ e2 e3, G = [.d (frs s), .d (frs t), e2, e3]) ∧ ∀ j, j < i → ∃ a b, s[j]? = some a ∧ t[j]? = some b ∧ val a = val b) ⟨⟨_, _, rfl⟩, fun j hj => absurd hj (by omega)⟩ ?_ ?_
  · rintro i _ hi ⟨⟨e2, e3, rfl⟩, hI⟩
    have s1 : s[i]? = some s[i] := List.getElem?_eq_getElem hi
    have t1 : t[i]? = some (t[i]'(by omega)) := List.getElem?_eq_getElem (by omega)
    have ga := hs _ (List.getElem_mem hi)
    have gb := ht _ (List.getElem_mem (show i < t.length by omega))
    generalize s[i] = a at s1 ga
    generalize t[i]'(by omega) = b at t1 gb
    walk_at "w"
    refine ⟨_, atI_nat (by rw [List.getElem?_map, s1]; rfl), ?_⟩
    walk_at "w"
    refine ⟨_, atI_nat (by rw [List.getElem?_map, t1]; rfl), ?_⟩
    walk_at "w"
    have ec : cmpF a b = sgnQ (val a - val b) := cmp_val ga gb
    have cut := slt_drop (s := s) (t := t) (by omega) hI
    have d1 : s.drop i = a :: s.drop (i + 1) := by
      obtain ⟨z, e⟩ := List.getElem?_eq_some_iff.mp s1
      rw [List.drop_eq_getElem_cons hi, e]
    have d2 : t.drop i = b :: t.drop (i + 1) := by
      obtain ⟨z, e⟩ := List.getElem?_eq_some_iff.mp t1
      rw [List.drop_eq_getElem_cons (by omega), e]
    rw [d1, d2] at cut
    have cut : sLt s t ↔ (val a < val b ∨ (val a = val b ∧ sLt (s.drop (i + 1)) (t.drop (i + 1)))) := cut
    refine cnd_nd (fun ne => ?_) (fun z => ?_)
    · walk_at "w"
      have e : decide (sLt s t) = decide (cmpF a b < 0) := by
        rw [decide_eq_decide, cut, ec]
        rw [ec] at ne
        rcases tri (val a - val b) with k | k | k
        · have q : sgnQ (val a - val b) = -1 := by unfold sgnQ; rw [if_neg (by grind), if_pos k]
          rw [q]
          exact ⟨fun _ => by decide, fun _ => .inl (by grind)⟩
        · rw [k, sgnQ_zero] at ne
          exact (ne rfl).elim
        · have q : sgnQ (val a - val b) = 1 := by unfold sgnQ; rw [if_pos k]
          rw [q]
          exact ⟨fun z => by grind, fun z => absurd z (by decide)⟩
      rw [e] at h
      exact h
    · walk_at "w"
      refine ⟨⟨_, _, rfl⟩, fun j hj => ?_⟩
      by_cases e : j = i
      · subst e
        rw [ec] at z
        have := (sgnQ_iff _).mp z
        exact ⟨a, b, s1, t1, by grind⟩
      · exact hI j (by omega)
  · rintro _ ⟨⟨e2, e3, rfl⟩, hI⟩
    walk_at "w"
    have : ¬ sLt s t := fun z => by
      have z := (slt_drop (by omega) hI).mp z
      rw [List.drop_of_length_le (by omega), List.drop_of_length_le (by omega)] at z
      exact z
    rw [decide_eq_false this] at h
    exact h
  ) only [↓qt_eq])
end


end
section
open PySem PyProof.Rows L2 Evl U.Hull

section
variable {K : Fg} {cs : Cs} {gs : Gs} {φ : PyData → Prop} {A : Rs → Prop} {ε : Xw → Prop} {w : World}
/-! ### sides, land -/
-- slots of sides_of: 0 body, 1 at, 2 corner
-- slots of size_of: 0 body
-- slots of land_of: 0 body, 1 found, 2 x, 3 y, 4 right, 5 up
end


end
section
open PySem PyProof.Rows L2 Evl U.Hull

section
variable {K : Fg} {cs : Cs} {gs : Gs} {φ : PyData → Prop} {A : Rs → Prop} {ε : Xw → Prop} {w : World}
-- slots of _law_three_land: 0 _law_one, 1 _law_two, 2 _law_three, 3 _law_first, 4 _law_second, 5 _law_third
/-! what is needed of bodies -/
end


end
section
open PySem PyProof.Rows L2 Evl U.Hull

section
variable {K : Fg} {cs : Cs} {gs : Gs} {φ : PyData → Prop} {A : Rs → Prop} {ε : Xw → Prop} {w : World}
/-! ### bodies in order, faces -/
-- slots of in_order: 0 bodies, 1 common, 2 by_worth, 3 body, 4 key, 5 corner, 6 number
end


end
section
open PySem PyProof.Rows L2 Evl U.Hull

section
variable {K : Fg} {cs : Cs} {gs : Gs} {φ : PyData → Prop} {A : Rs → Prop} {ε : Xw → Prop} {w : World}
/-! ### == of data by a type -/
/-! ### keys with places, sorted -/
/-! ### the law's own order of bodies -/
-- slots of _law_in_order: 0 _law_bodies, 1 _law_limit, 2 _law_body_here, 3 _law_keys, 4 _law_found, 5 _law_key_here, 6 _law_at
end


end
section
open PySem PyProof.Rows L2 Evl U.Hull

section
variable {K : Fg} {cs : Cs} {gs : Gs} {φ : PyData → Prop} {A : Rs → Prop} {ε : Xw → Prop} {w : World}
/-! ### faces -/
-- slots of faces: 0 body, 1 found, 2 corner, 3 side
end


end
section
open PySem PyProof.Rows L2 Evl U.Hull

section
variable {K : Fg} {cs : Cs} {gs : Gs} {φ : PyData → Prop} {A : Rs → Prop} {ε : Xw → Prop} {w : World} {W : WX}
/-! ### the body of some spots -/
-- slots of body_of: 0 spots, 1 room, 2 first, 3 rest, 4 spot
/-! ### lots -/
-- slots of is_small: 0 number, 1 limit
-- slots of bounded: 0 lot, 1 weight, 2 body, 3 corner, 4 one, 5 number
end


end
section
open PySem PyProof.Rows L2 Evl U.Hull

section
variable {K : Fg} {cs : Cs} {gs : Gs} {φ : PyData → Prop} {A : Rs → Prop} {ε : Xw → Prop} {w : World} {W : WX}
/-! ### weights gathered -/
-- slots of gathered: 0 rows, 1 room, 2 weights, 3 left, 4 weight, 5 body
end


end
section
open PySem PyProof.Rows L2 Evl U.Hull

section
variable {K : Fg} {cs : Cs} {gs : Gs} {φ : PyData → Prop} {A : Rs → Prop} {ε : Xw → Prop} {w : World} {W : WX}
-- slots of settled_lot: 0 rows, 1 room
/-! ### lots of rows of spots -/
/-- a row: its weight, its spots, told as a list or a tuple -/
structure RowS where
  w : Int
  t : Bool
  ss : List Spot
-- slots of lot_of: 0 rows, 1 room, 2 found, 3 row, 4 body
end


end
section
open PySem PyProof.Rows L2 Evl U.Hull

section
variable {K : Fg} {cs : Cs} {gs : Gs} {φ : PyData → Prop} {A : Rs → Prop} {ε : Xw → Prop} {w : World} {W : WX}
/-! ### the law's own lot -/
-- slots of _law_lot: 0 _law_rows_here, 1 _law_rank, 2 _law_bodies, 3 _law_weights, 4 _law_corners, 5 _law_body_here, 6 _law_below_here, 7 _law_keys, 8 _law_ranked, 9 _law_weight, 10 _law_spots_here, 11 _law_at, 12 _law_key_here
theorem ixN_nat {n j : Nat} (h : j < n) : ixN n (j : Int) = some j := by
  unfold ixN
  rw [if_pos (by omega), if_pos (by omega), Int.toNat_natCast]
end


end
section
open PySem PyProof.Rows L2 Evl U.Hull

section
variable {K : Fg} {cs : Cs} {gs : Gs} {φ : PyData → Prop} {A : Rs → Prop} {ε : Xw → Prop} {w : World} {W : WX}
/-! ### drawn rows -/
structure DrR (a r C : Nat) (rs : List RowS) : Prop where
  wl : ∀ p ∈ rs, -7 ≤ p.w ∧ p.w ≤ 7
  tf : ∀ p ∈ rs, p.t = false
  sp : ∀ p ∈ rs, Sps a r p.ss ∧ 1 ≤ p.ss.length ∧ p.ss.length ≤ C
-- slots of _law_rows: 0 _law_bag_here, 1 _law_rank, 2 _law_limit, 3 _law_corners, 4 _law_found, 5 _law_at, 6 _law_weight, 7 _law_row
end


end
section
open PySem PyProof.Rows L2 Evl U.Hull

section
variable {K : Fg} {cs : Cs} {gs : Gs} {φ : PyData → Prop} {A : Rs → Prop} {ε : Xw → Prop} {w : World} {W : WX}
/-! ### lots in plain -/
/-! ### two lots -/
-- slots of same_room: 0 one, 1 other
-- slots of added: 0 one, 1 other
-- slots of scaled: 0 lot, 1 number, 2 weight, 3 body
-- slots of told23: 0 _law_one, 1 _law_other, 2 why
/-! ### drawn lots -/
end


end
section
open PySem PyProof.Rows L2 Evl U.Hull

section
variable {K : Fg} {cs : Cs} {gs : Gs} {φ : PyData → Prop} {A : Rs → Prop} {ε : Xw → Prop} {w : World} {W : WX}
/-! ### what a lot sums to -/
-- slots of tally: 0 lot, 1 weight, 2 body
-- slots of land: 0 lot, 1 found, 2 weight, 3 body
-- slots of _law_size: 0 _law_spots_here, 1 _law_body_here, 2 _law_total, 3 _law_at
end


end
section
open PySem PyProof.Rows L2 Evl U.Hull

section
variable {K : Fg} {cs : Cs} {gs : Gs} {φ : PyData → Prop} {A : Rs → Prop} {ε : Xw → Prop} {w : World} {W : WX}
/-! ### lots turned -/
-- slots of faced: 0 rows, 1 found, 2 weight, 3 body, 4 face
-- slots of turned: 0 lot
end


end
section
open U.Hull
/-! ### faces of faces -/
end
section
open PySem PyProof.Rows L2 Evl U.Hull

section
variable {K : Fg} {cs : Cs} {gs : Gs} {φ : PyData → Prop} {A : Rs → Prop} {ε : Xw → Prop} {w : World} {W : WX}
/-! ### lots turned: calls -/
end


end
section
open U.Hull
/-! ### what a body holds, in plain -/
/-! ### the law's own way -/
noncomputable def T3 (p q u s : Pt) : Prop := tn p q u ≠ 0 ∧ ((0 ≤ tn p q s ∧ 0 ≤ tn q u s ∧ 0 ≤ tn u p s) ∨ (tn p q s ≤ 0 ∧ tn q u s ≤ 0 ∧ tn u p s ≤ 0))
noncomputable instance (p q u s : Pt) : Decidable (T3 p q u s) := by unfold T3; exact inferInstance
end
section
open PySem PyProof.Rows L2 Evl U.Hull

section
variable {K : Fg} {cs : Cs} {gs : Gs} {φ : PyData → Prop} {A : Rs → Prop} {ε : Xw → Prop} {w : World} {W : WX}
/-! ### what a body holds -/
noncomputable def tf (p : Prop) : Bool := @decide p (Classical.propDecidable p)
-- slots of spot_order: 0 one, 1 other, 2 first, 3 second, 4 found
-- slots of between: 0 spot, 1 low, 2 high
-- slots of holds: 0 body, 1 spot, 2 rim, 3 least, 4 start, 5 end
end


end
section
open PySem PyProof.Rows L2 Evl U.Hull

section
variable {K : Fg} {cs : Cs} {gs : Gs} {φ : PyData → Prop} {A : Rs → Prop} {ε : Xw → Prop} {w : World} {W : WX}
/-! ### the law's own way of telling what is within -/
-- slots of _law_in_three: 0 _law_one, 1 _law_two, 2 _law_three, 3 _law_spot_here, 4 _law_sides
-- slots of _law_in: 0 _law_spots_here, 1 _law_spot_here, 2 _law_at, 3 _law_to, 4 _law_k
theorem rng_map (k : Nat) : rngD 0 k = (List.range k).map fun i : Nat => PyData.int i := qt_of (by simp (disch := with_unfolding_all
  apply List.ext_getElem?
  intro i
  rw [List.getElem?_map]
  by_cases h : i < k
  · rw [List.getElem?_eq_getElem (by rw [rngD_len]; exact h), List.getElem?_range h]
    unfold rngD
    simp
  · rw [List.getElem?_eq_none (by rw [rngD_len]; omega), List.getElem?_eq_none (by rw [List.length_range]; omega)]
    rfl
  ) only [↓qt_eq])
end


end
section
open PySem PyProof.Rows L2 Evl U.Hull

section
variable {K : Fg} {cs : Cs} {gs : Gs} {φ : PyData → Prop} {A : Rs → Prop} {ε : Xw → Prop} {w : World} {W : WX}
/-! ### weights at spots -/
-- slots of weight_at: 0 lot, 1 spot, 2 weight, 3 body
-- slots of told21: 0 _law_lot, 1 _law_spot_here, 2 why
-- slots of _law_weight: 0 _law_rows_here, 1 _law_spot_here, 2 _law_weight_here, 3 _law_spots_here
/-! ### spots looked at -/
-- slots of _law_all_spots: 0 _law_rows_here, 1 _law_found, 2 _law_weight_here, 3 _law_spots_here
-- slots of _law_look: 0 _law_bag_here, 1 _law_spots_here, 2 _law_rank, 3 _law_one, 4 _law_two
-- slots of _law_some_spots: 0 _law_bag_here, 1 _law_rows_here, 2 _law_rank, 3 _law_many, 4 _law_spots_here, 5 _law_at
end


end
section
open PySem PyProof.Rows L2 Evl

section
variable {K : Fg} {cs : Cs} {gs : Gs} {φ : PyData → Prop} {A : Rs → Prop} {ε : Xw → Prop}
/-! ### maps that lead -/
-- slots of room_from: 0 way
-- slots of summed: 0 row, 1 spot, 2 last, 3 step, 4 one, 5 steps
-- slots of led: 0 way, 1 spot, 2 row
/-! ### the law's own -/
-- slots of _law_led: 0 _law_kind, 1 _law_spot_here, 2 _law_found, 3 _law_row, 4 _law_total, 5 _law_at
-- slots of told16: 0 _law_map_rows, 1 _law_spot_here, 2 why
end


end
section
open PySem PyProof.Rows L2 Evl U.Hull

section
variable {K : Fg} {cs : Cs} {gs : Gs} {φ : PyData → Prop} {A : Rs → Prop} {ε : Xw → Prop} {w : World} {W : WX}
/-! ### bodies carried -/
-- slots of carried: 0 lot, 1 way, 2 rows, 3 weight, 4 body, 5 corner
-- slots of _law_carried: 0 _law_rows_here, 1 _law_table, 2 _law_weight, 3 _law_spots_here, 4 _law_spot_here
-- slots of told25: 0 _law_lot_here, 1 _law_table, 2 why
end


end
section
open PySem PyProof.Rows L2 Evl U.Hull

section
variable {K : Fg} {cs : Cs} {gs : Gs} {φ : PyData → Prop} {A : Rs → Prop} {ε : Xw → Prop} {w : World} {W : WX}
/-! ### bodies laid -/
-- slots of sum_of: 0 spot, 1 other, 2 one, 3 two
-- slots of laid_bodies: 0 one, 1 other, 2 corner, 3 beside
-- slots of laid: 0 one, 1 other, 2 room, 3 rows, 4 weight, 5 body, 6 times, 7 beside
-- slots of told26: 0 _law_one, 1 _law_other, 2 why
-- slots of _law_sums: 0 _law_spots_here, 1 _law_others, 2 _law_found, 3 _law_spot_here, 4 _law_one, 5 _law_at
-- slots of _law_laid: 0 _law_rows_here, 1 _law_others, 2 _law_found, 3 _law_weight, 4 _law_spots_here, 5 _law_beside, 6 _law_more
/-! ### lots laid, in plain -/
section
variable {r : Nat} {rs qs : List RowS} (hr : r = 1 ∨ r = 2) (h : DrR 14 r 4 rs) (k : DrR 14 r 4 qs) (l1 : rs.length ≤ 4) (l2 : qs.length ≤ 4)
include hr h l1
include k l2
end
end


end
section
open PySem PyProof.Rows L2 Evl U.Hull

section
variable {K : Fg} {cs : Cs} {gs : Gs} {φ : PyData → Prop} {A : Rs → Prop} {ε : Xw → Prop} {w : World} {W : WX}
/-! ### rows with their bounds -/
/-! ### laying in any order -/
end


end
section
open PySem PyProof.Rows L2 Evl U.Hull

section
variable {K : Fg} {cs : Cs} {gs : Gs} {φ : PyData → Prop} {A : Rs → Prop} {ε : Xw → Prop} {w : World} {W : WX}
-- slots of _law_threes: 0 _law_bag_here, 1 _law_rank, 2 _law_limit, 3 _law_found, 4 _law_at, 5 _law_spots, 6 _law_corner
/-! ### straight maps -/
end


end
section
open PySem PyProof.Rows L2 Evl U.Hull

section
variable {K : Fg} {cs : Cs} {gs : Gs} {φ : PyData → Prop} {A : Rs → Prop} {ε : Xw → Prop} {w : World} {W : WX}
/-! ### true bounds: D times the worth is whole, the worth lies from -V to V -/
-- slots of lspotsL: 0 _law_bag_here, 1 _law_rank, 2 _law_limit, 3 _law_many, 4 _law_found, 5 _law_kind, 6 _law_one, 7 _law_two, 8 _law_at
-- slots of lrowsL: 0 _law_bag_here, 1 _law_rank, 2 _law_limit, 3 _law_corners, 4 _law_found, 5 _law_at, 6 _law_weight, 7 _law_row
end


end
section
open PySem PyProof.Rows L2 Evl U.Hull

section
variable {K : Fg} {cs : Cs} {gs : Gs} {φ : PyData → Prop} {A : Rs → Prop} {ε : Xw → Prop} {w : World} {W : WX}
/-! ### a map behind a map -/
-- slots of behind: 0 first, 1 then, 2 found, 3 row, 4 made, 5 last, 6 step, 7 inner, 8 steps, 9 one, 10 other
/-! ### bounds carried -/
end


end
section
open PySem PyProof.Rows L2 Evl U.Hull

section
variable {K : Fg} {cs : Cs} {gs : Gs} {φ : PyData → Prop} {A : Rs → Prop} {ε : Xw → Prop} {w : World} {W : WX}
/-! ### a spot lies deep where each small step on leads not out -/
end


end
section
open PySem PyProof.Rows L2 Evl U.Hull

section
variable {K : Fg} {cs : Cs} {gs : Gs} {φ : PyData → Prop} {A : Rs → Prop} {ε : Xw → Prop} {w : World} {W : WX}
-- slots of lookL: 0 _law_bag_here, 1 _law_spots_here, 2 _law_rank, 3 _law_one, 4 _law_two
-- slots of someL: 0 _law_bag_here, 1 _law_rows_here, 2 _law_rank, 3 _law_many, 4 _law_spots_here, 5 _law_at
-- slots of wideL: 0 _law_bag_here, 1 _law_rank, 2 _law_limit, 3 _law_found, 4 _law_k, 5 _law_at
-- slots of _law_deep: 0 _law_spots_here, 1 _law_spot_here, 2 _law_tiny, 3 _law_start
end


end
section
open PySem PyProof.Rows L2 Evl U.Hull
/-! ### corners and sides: what lies on a side's line -/
/-! ### Euler: the faces that hold a spot, with their signs -/
end
section
open PySem PyProof.Rows L2 Evl U.Hull

section
variable {K : Fg} {cs : Cs} {gs : Gs} {φ : PyData → Prop} {A : Rs → Prop} {ε : Xw → Prop} {w : World} {W : WX}
/-! ### faces by the law, mirrored bodies -/
-- slots of _law_faces: 0 _law_spots_here, 1 _law_body_here, 2 _law_found, 3 _law_corner, 4 _law_at
-- slots of _law_turned: 0 _law_rows_here, 1 _law_found, 2 _law_weight, 3 _law_spots_here, 4 _law_sign_here, 5 _law_face
/-! ### mirrored -/
-- slots of mirrored: 0 body, 1 corner, 2 one
-- slots of unlaid: 0 body
/-- a slot is forgotten -/
theorem sw_forget {tu : TS} {G : Gam} {Φ : Out → Prop} (i : Nat) (h : SW K cs W tu (G.set i .un) Φ) : SW K cs W tu G Φ := fun Wd B ad H0 H σ D S q => by
  by_cases hi : i < σ.length
  · have S2 := S.setU (i := i) (o := σ[i])
    rw [List.set_getElem_self] at S2
    exact h Wd B ad H0 H σ D S2 fun o p => (q o p).mono (less_sub fun a z => Zs.set_of (fun _ z => by cases z) z)
  · rw [List.set_eq_of_length_le (by rw [← S.len]; omega)] at h
    exact h Wd B ad H0 H σ D S q
end


end
namespace Law
def topS (i : Nat) : Stmt := PySem.Challenge.pw_umbrage_k07_spots_in_order.main.body.getD i (.Pass ⟨0, 0, 0, 0⟩)
abbrev s__law_bag : Stmt := topS 7
theorem sc__law_bag : FnScope ["_law_script"] ["_law_script"] (defScope s__law_bag) := ⟨rfl, rfl, rfl, by decide +kernel, rfl, by decide +kernel, by decide +kernel⟩
abbrev s__law_pull : Stmt := topS 8
theorem sc__law_pull : FnScope ["_law_bag_here", "_law_size", "_law_cells", "_law_cell", "_law_spot_here"] ["_law_bag_here", "_law_size"] (defScope s__law_pull) := ⟨rfl, rfl, rfl, by decide +kernel, rfl, by decide +kernel, by decide +kernel⟩
abbrev s__law_room : Stmt := topS 19
theorem sc__law_room : FnScope ["_law_bag_here"] ["_law_bag_here"] (defScope s__law_room) := ⟨rfl, rfl, rfl, by decide +kernel, rfl, by decide +kernel, by decide +kernel⟩
abbrev s__law_gcd : Stmt := topS 10
theorem sc__law_gcd : FnScope ["_law_one", "_law_other", "_law_kept"] ["_law_one", "_law_other"] (defScope s__law_gcd) := ⟨rfl, rfl, rfl, by decide +kernel, rfl, by decide +kernel, by decide +kernel⟩
abbrev s__law_frac : Stmt := topS 11
theorem sc__law_frac : FnScope ["_law_above", "_law_below", "_law_divisor"] ["_law_above", "_law_below"] (defScope s__law_frac) := ⟨rfl, rfl, rfl, by decide +kernel, rfl, by decide +kernel, by decide +kernel⟩
abbrev s__law_part : Stmt := topS 15
theorem sc__law_part : FnScope ["_law_bag_here"] ["_law_bag_here"] (defScope s__law_part) := ⟨rfl, rfl, rfl, by decide +kernel, rfl, by decide +kernel, by decide +kernel⟩
abbrev s__law_spot : Stmt := topS 18
theorem sc__law_spot : FnScope ["_law_bag_here", "_law_rank", "_law_at"] ["_law_bag_here", "_law_rank"] (defScope s__law_spot) := ⟨rfl, rfl, rfl, by decide +kernel, rfl, by decide +kernel, by decide +kernel⟩
abbrev s_shared : Stmt := topS 1
theorem sc_shared : FnScope ["one", "other"] ["one", "other"] (defScope s_shared) := ⟨rfl, rfl, rfl, by decide +kernel, rfl, by decide +kernel, by decide +kernel⟩
abbrev s_common_below : Stmt := topS 3
theorem sc_common_below : FnScope ["spots", "found", "spot", "above", "below"] ["spots"] (defScope s_common_below) := ⟨rfl, rfl, rfl, by decide +kernel, rfl, by decide +kernel, by decide +kernel⟩
abbrev s_whole_row : Stmt := topS 4
theorem sc_whole_row : FnScope ["spot", "common", "above", "below"] ["spot", "common"] (defScope s_whole_row) := ⟨rfl, rfl, rfl, by decide +kernel, rfl, by decide +kernel, by decide +kernel⟩
abbrev s_rising : Stmt := topS 5
theorem sc_rising : FnScope ["spots", "common", "by_worth", "spot", "key"] ["spots"] (defScope s_rising) := ⟨rfl, rfl, rfl, by decide +kernel, rfl, by decide +kernel, by decide +kernel⟩
abbrev s__law_like : Stmt := topS 9
theorem sc__law_like : FnScope ["_law_found", "_law_due", "_law_at"] ["_law_found", "_law_due"] (defScope s__law_like) := ⟨rfl, rfl, rfl, by decide +kernel, rfl, by decide +kernel, by decide +kernel⟩
abbrev s__law_far : Stmt := topS 16
theorem sc__law_far : FnScope ["_law_bag_here"] ["_law_bag_here"] (defScope s__law_far) := ⟨rfl, rfl, rfl, by decide +kernel, rfl, by decide +kernel, by decide +kernel⟩
abbrev s__law_far_part : Stmt := topS 17
theorem sc__law_far_part : FnScope ["_law_bag_here"] ["_law_bag_here"] (defScope s__law_far_part) := ⟨rfl, rfl, rfl, by decide +kernel, rfl, by decide +kernel, by decide +kernel⟩
abbrev s__law_add : Stmt := topS 12
theorem sc__law_add : FnScope ["_law_one", "_law_other"] ["_law_one", "_law_other"] (defScope s__law_add) := ⟨rfl, rfl, rfl, by decide +kernel, rfl, by decide +kernel, by decide +kernel⟩
abbrev s__law_sign : Stmt := topS 13
theorem sc__law_sign : FnScope ["_law_number"] ["_law_number"] (defScope s__law_sign) := ⟨rfl, rfl, rfl, by decide +kernel, rfl, by decide +kernel, by decide +kernel⟩
abbrev s__law_cmp : Stmt := topS 14
theorem sc__law_cmp : FnScope ["_law_one", "_law_other"] ["_law_one", "_law_other"] (defScope s__law_cmp) := ⟨rfl, rfl, rfl, by decide +kernel, rfl, by decide +kernel, by decide +kernel⟩
abbrev s__law_before : Stmt := topS 20
theorem sc__law_before : FnScope ["_law_one", "_law_other", "_law_at", "_law_side"] ["_law_one", "_law_other"] (defScope s__law_before) := ⟨rfl, rfl, rfl, by decide +kernel, rfl, by decide +kernel, by decide +kernel⟩
abbrev s_law : Stmt := topS 21
theorem sc_law : FnScope ["_law_script", "_law_bag_here", "_law_rank", "_law_spots", "_law_at", "_law_handed", "_law_step", "_law_spot_here", "_law_kind", "_law_found", "_law_k"] ["_law_script"] (defScope s_law) := ⟨rfl, rfl, rfl, by decide +kernel, rfl, by decide +kernel, by decide +kernel⟩
set_option genInjectivity false
set_option genSizeOf false
structure TX (K : Fg) (mg : Str → Option Value) where
  a__law_bag : Addr
  d__law_bag : FuncData
  F__law_bag : Fun K "_law_bag" "_law_bag" s__law_bag a__law_bag d__law_bag
  g__law_bag : mg "_law_bag" = some (.ref a__law_bag)
  b__law_bag : Binds K d__law_bag ["_law_script"] []
  a__law_pull : Addr
  d__law_pull : FuncData
  F__law_pull : Fun K "_law_pull" "_law_pull" s__law_pull a__law_pull d__law_pull
  g__law_pull : mg "_law_pull" = some (.ref a__law_pull)
  b__law_pull : Binds K d__law_pull ["_law_bag_here", "_law_size"] []
  a__law_room : Addr
  d__law_room : FuncData
  F__law_room : Fun K "_law_room" "_law_room" s__law_room a__law_room d__law_room
  g__law_room : mg "_law_room" = some (.ref a__law_room)
  b__law_room : Binds K d__law_room ["_law_bag_here"] []
  a__law_gcd : Addr
  d__law_gcd : FuncData
  F__law_gcd : Fun K "_law_gcd" "_law_gcd" s__law_gcd a__law_gcd d__law_gcd
  g__law_gcd : mg "_law_gcd" = some (.ref a__law_gcd)
  b__law_gcd : Binds K d__law_gcd ["_law_one", "_law_other"] []
  a__law_frac : Addr
  d__law_frac : FuncData
  F__law_frac : Fun K "_law_frac" "_law_frac" s__law_frac a__law_frac d__law_frac
  g__law_frac : mg "_law_frac" = some (.ref a__law_frac)
  b__law_frac : Binds K d__law_frac ["_law_above", "_law_below"] []
  a__law_part : Addr
  d__law_part : FuncData
  F__law_part : Fun K "_law_part" "_law_part" s__law_part a__law_part d__law_part
  g__law_part : mg "_law_part" = some (.ref a__law_part)
  b__law_part : Binds K d__law_part ["_law_bag_here"] []
  a__law_spot : Addr
  d__law_spot : FuncData
  F__law_spot : Fun K "_law_spot" "_law_spot" s__law_spot a__law_spot d__law_spot
  g__law_spot : mg "_law_spot" = some (.ref a__law_spot)
  b__law_spot : Binds K d__law_spot ["_law_bag_here", "_law_rank"] []
  a_shared : Addr
  d_shared : FuncData
  F_shared : Fun K "shared" "shared" s_shared a_shared d_shared
  g_shared : mg "shared" = some (.ref a_shared)
  b_shared : Binds K d_shared ["one", "other"] []
  a_common_below : Addr
  d_common_below : FuncData
  F_common_below : Fun K "common_below" "common_below" s_common_below a_common_below d_common_below
  g_common_below : mg "common_below" = some (.ref a_common_below)
  b_common_below : Binds K d_common_below ["spots"] []
  a_whole_row : Addr
  d_whole_row : FuncData
  F_whole_row : Fun K "whole_row" "whole_row" s_whole_row a_whole_row d_whole_row
  g_whole_row : mg "whole_row" = some (.ref a_whole_row)
  b_whole_row : Binds K d_whole_row ["spot", "common"] []
  a_rising : Addr
  d_rising : FuncData
  F_rising : Fun K "rising" "rising" s_rising a_rising d_rising
  g_rising : mg "rising" = some (.ref a_rising)
  b_rising : Binds K d_rising ["spots"] []
  a__law_like : Addr
  d__law_like : FuncData
  F__law_like : Fun K "_law_like" "_law_like" s__law_like a__law_like d__law_like
  g__law_like : mg "_law_like" = some (.ref a__law_like)
  b__law_like : Binds K d__law_like ["_law_found", "_law_due"] []
  a__law_far : Addr
  d__law_far : FuncData
  F__law_far : Fun K "_law_far" "_law_far" s__law_far a__law_far d__law_far
  g__law_far : mg "_law_far" = some (.ref a__law_far)
  b__law_far : Binds K d__law_far ["_law_bag_here"] []
  a__law_far_part : Addr
  d__law_far_part : FuncData
  F__law_far_part : Fun K "_law_far_part" "_law_far_part" s__law_far_part a__law_far_part d__law_far_part
  g__law_far_part : mg "_law_far_part" = some (.ref a__law_far_part)
  b__law_far_part : Binds K d__law_far_part ["_law_bag_here"] []
  a__law_add : Addr
  d__law_add : FuncData
  F__law_add : Fun K "_law_add" "_law_add" s__law_add a__law_add d__law_add
  g__law_add : mg "_law_add" = some (.ref a__law_add)
  b__law_add : Binds K d__law_add ["_law_one", "_law_other"] []
  a__law_sign : Addr
  d__law_sign : FuncData
  F__law_sign : Fun K "_law_sign" "_law_sign" s__law_sign a__law_sign d__law_sign
  g__law_sign : mg "_law_sign" = some (.ref a__law_sign)
  b__law_sign : Binds K d__law_sign ["_law_number"] []
  a__law_cmp : Addr
  d__law_cmp : FuncData
  F__law_cmp : Fun K "_law_cmp" "_law_cmp" s__law_cmp a__law_cmp d__law_cmp
  g__law_cmp : mg "_law_cmp" = some (.ref a__law_cmp)
  b__law_cmp : Binds K d__law_cmp ["_law_one", "_law_other"] []
  a__law_before : Addr
  d__law_before : FuncData
  F__law_before : Fun K "_law_before" "_law_before" s__law_before a__law_before d__law_before
  g__law_before : mg "_law_before" = some (.ref a__law_before)
  b__law_before : Binds K d__law_before ["_law_one", "_law_other"] []
  n_abs : mg "abs" = none
  n_all : mg "all" = none
  n_bool : mg "bool" = none
  n_int : mg "int" = none
  n_isinstance : mg "isinstance" = none
  n_len : mg "len" = none
  n_list : mg "list" = none
  n_max : mg "max" = none
  n_range : mg "range" = none
  n_set : mg "set" = none
  n_sorted : mg "sorted" = none
  n_str : mg "str" = none
  n_tuple : mg "tuple" = none
section
variable {Pg : Program} {w : World} {K : Fg} {mg : Str → Option Value} {base : Heap} {cs : Cs} {gs : Gs}
theorem ok__law_bag (T : TX K mg) : FnOk Pg w K mg base CX0 1 T.a__law_bag T.d__law_bag ["_law_script"] (spBag K) := qt_of (by simp (disch := with_unfolding_all
  refine T.F__law_bag.ok sc__law_bag (fun vs H Q E h => ?_) (fun cdv A outer sh H vs Q E hr h => ?_)
  · obtain ⟨W, ns, _, hd, _⟩ := h
    exact dpa_len hd
  · obtain ⟨W, ns, hW, hd, hl, q⟩ := h
    obtain ⟨v, rfl, dv⟩ := dp1 hd
    exact ⟨t__law_bag K, (pss_one (ps_ret (pe_lst (pa_cons (pe_callTy c_list (by rfl) T.n_list (by decide +kernel) (pa_cons (pe_slice sl_list (pv 0) po_none (po_some pe_int)) pa_nil)) (pa_cons pe_int (pa_cons pe_int pa_nil)))))), rd__law_bag dv hl q⟩
  ) only [↓qt_eq])
theorem ok__law_pull (T : TX K mg) : FnOk Pg w K mg base CX0 1 T.a__law_pull T.d__law_pull ["_law_bag_here", "_law_size"] (spB K P_pull) := qt_of (by simp (disch := with_unfolding_all
  refine T.F__law_pull.ok sc__law_pull (fun vs H Q E h => ?_) (fun cdv A outer sh H vs Q E hr h => ?_)
  · obtain ⟨W, b, c, us, s, ds, r, s', _, rfl, _, hd, hp, _⟩ := h
    rw [List.length_cons, dpa_len hd]
    exact ln__law_pull s ds r s' hp
  · obtain ⟨W, b, c, us, s, ds, r, s', hW, rfl, hB, hd, ⟨n, rfl, h0, h1, rfl, rfl⟩, q⟩ := h
    obtain ⟨v, rfl, dv⟩ := dp1 hd
    cases dv
    exact ⟨t__law_pull K, (pss_cons (ps_set (i := 2) sc__law_pull.nd rfl (by first | exact Or.inl rfl | exact Or.inr rfl) (pe_ix ix_seq (pv 0) pe_int (fun _ _ => rfl)))
      (pss_cons (ps_set (i := 3) sc__law_pull.nd rfl (by first | exact Or.inl rfl | exact Or.inr rfl) pe_int)
      (pss_cons (ps_if (pt_cmpR op_gt (pe_callB c_len (by rfl) T.n_len PySem.boot_len (pa_cons (pv 2) pa_nil)) pe_int (nomark _)) (pss_cons (ps_set (i := 4) sc__law_pull.nd rfl (by first | exact Or.inl rfl | exact Or.inr rfl) (pe_op op_modX (pe_ix ix_seq (pv 0) pe_int (fun _ _ => rfl)) (pe_callB c_len (by rfl) T.n_len PySem.boot_len (pa_cons (pv 2) pa_nil))))
      (pss_cons (ps_set (i := 3) sc__law_pull.nd rfl (by first | exact Or.inl rfl | exact Or.inr rfl) (pe_ix ix_seq (pv 2) (pv 4) (fun _ _ => rfl)))
      (pss_one (ps_if (pt_cmpR op_ge (pe_callB c_abs (by rfl) T.n_abs (by decide +kernel) (pa_cons (pv 3) pa_nil)) (pe_op op_pow pe_int pe_int) (nomark _)) (pss_cons (ps_asg (pe_op op_fdivX (pv 3) (pv 1)) (pg_sub (pv 2) (pv 4) set_list))
      (pss_one (ps_ret (pe_op op_modX (pv 3) (pv 1))))) pss_nil)))) pss_nil)
      (pss_cons (ps_asg (pe_op op_add (pe_ix ix_seq (pv 0) pe_int (fun _ _ => rfl)) pe_int) (pg_sub (pv 0) pe_int set_list))
      (pss_cons (ps_asg (pe_op op_modX (pe_op op_add (pe_op op_add (pe_op op_mulW (pe_ix ix_seq (pv 0) pe_int (fun _ _ => rfl)) pe_int) (pe_op op_modX (pv 3) pe_int)) (pe_ix ix_seq (pv 0) pe_int (fun _ _ => rfl))) pe_int) (pg_sub (pv 0) pe_int set_list))
      (pss_one (ps_ret (pe_op op_modX (pe_op op_fdivX (pe_op op_modX (pe_op op_add (pe_op op_mulW (pe_ix ix_seq (pv 0) pe_int (fun _ _ => rfl)) pe_int) (pe_op op_fdivX (pe_ix ix_seq (pv 0) pe_int (fun _ _ => rfl)) pe_int)) pe_int) pe_int) (pv 1))))))))), rd__law_pull hB h0 h1 q⟩
  ) only [↓qt_eq])
theorem ok__law_room (T : TX K mg) : FnOk Pg w K mg base CX0 2 T.a__law_room T.d__law_room ["_law_bag_here"] (spWB K P_room) :=
  okWB (fun _ => 0) T.F__law_room sc__law_room ln__law_room (fun ds A h cdv Ar outer sh H E hr => ⟨t__law_room K, (pss_one (ps_ret (pe_op op_subI pe_int (pe_callTy c_int1 (by rfl) T.n_int (by decide +kernel) (pa_cons (pe_cmpR op_eq (pe_call (ok__law_pull T) (hr.mono (by decide)) (by rfl) T.g__law_pull T.F__law_pull.kp T.b__law_pull .nil pass0 (pa_cons (pv 0) (pa_cons pe_int pa_nil))) pe_int (nomark _)) pa_nil))))), rd__law_room h⟩)
theorem ok__law_gcd (T : TX K mg) : FnOk Pg w K mg base CX0 1 T.a__law_gcd T.d__law_gcd ["_law_one", "_law_other"] (spP K P_gcd) :=
  okP T.F__law_gcd sc__law_gcd ln__law_gcd (fun ds r h cdv A outer sh H E hr => ⟨t__law_gcd K, (pss_cons (ps_set (i := 0) sc__law_gcd.nd rfl (by first | exact Or.inl rfl | exact Or.inr rfl) (pe_callB c_abs (by rfl) T.n_abs (by decide +kernel) (pa_cons (pv 0) pa_nil)))
      (pss_cons (ps_set (i := 1) sc__law_gcd.nd rfl (by first | exact Or.inl rfl | exact Or.inr rfl) (pe_callB c_abs (by rfl) T.n_abs (by decide +kernel) (pa_cons (pv 1) pa_nil)))
      (pss_cons (ps_while PassesOwn.never (pt_cmpR op_gt (pv 1) pe_int (nomark _)) (pss_cons (ps_set (i := 2) sc__law_gcd.nd rfl (by first | exact Or.inl rfl | exact Or.inr rfl) (pv 1))
      (pss_cons (ps_set (i := 1) sc__law_gcd.nd rfl (by first | exact Or.inl rfl | exact Or.inr rfl) (pe_op op_modX (pv 0) (pv 1)))
      (pss_one (ps_set (i := 0) sc__law_gcd.nd rfl (by first | exact Or.inl rfl | exact Or.inr rfl) (pv 2))))))
      (pss_one (ps_ret (pe_callB (c_max2 rfl) (by rfl) T.n_max (by decide +kernel) (pa_cons pe_int (pa_cons (pv 0) pa_nil)))))))), rd__law_gcd h⟩)
theorem ok__law_frac (T : TX K mg) : FnOk Pg w K mg base CX0 2 T.a__law_frac T.d__law_frac ["_law_above", "_law_below"] (spP K P_frac) :=
  okP T.F__law_frac sc__law_frac ln__law_frac (fun ds r h cdv A outer sh H E hr => ⟨t__law_frac K, (pss_cons (ps_set (i := 2) sc__law_frac.nd rfl (by first | exact Or.inl rfl | exact Or.inr rfl) (pe_call (ok__law_gcd T) (hr.mono (by decide)) (by rfl) T.g__law_gcd T.F__law_gcd.kp T.b__law_gcd .nil pass0 (pa_cons (pv 0) (pa_cons (pv 1) pa_nil))))
      (pss_cons (ps_if (pt_cmpR op_lt (pv 1) pe_int (nomark _)) (pss_one (ps_set (i := 2) sc__law_frac.nd rfl (by first | exact Or.inl rfl | exact Or.inr rfl) (pe_un un_neg (pv 2)))) pss_nil)
      (pss_one (ps_ret (pe_tup (pa_cons (pe_op op_fdivX (pv 0) (pv 2)) (pa_cons (pe_op op_fdivX (pv 1) (pv 2)) pa_nil))))))), rd__law_frac h⟩)
theorem ok__law_part (T : TX K mg) : FnOk Pg w K mg base CX0 3 T.a__law_part T.d__law_part ["_law_bag_here"] (spB K P_part) :=
  okB T.F__law_part sc__law_part ln__law_part (fun s ds r s' h ok cdv A outer sh H E hr => ⟨t__law_part K, (pss_one (ps_ret (pe_call (ok__law_frac T) (hr.mono (by decide)) (by rfl) T.g__law_frac T.F__law_frac.kp T.b__law_frac .nil pass0 (pa_cons (pe_op op_sub (pe_call (ok__law_pull T) (hr.mono (by decide)) (by rfl) T.g__law_pull T.F__law_pull.kp T.b__law_pull .nil pass0 (pa_cons (pv 0) (pa_cons pe_int pa_nil))) pe_int) (pa_cons (pe_ix ix_seq (pe_lst (pa_cons pe_int (pa_cons pe_int (pa_cons pe_int (pa_cons pe_int pa_nil))))) (pe_call (ok__law_pull T) (hr.mono (by decide)) (by rfl) T.g__law_pull T.F__law_pull.kp T.b__law_pull .nil pass0 (pa_cons (pv 0) (pa_cons pe_int pa_nil))) (fun _ _ => rfl)) pa_nil))))), rd__law_part h ok⟩)
theorem ok__law_spot (T : TX K mg) : FnOk Pg w K mg base CX0 4 T.a__law_spot T.d__law_spot ["_law_bag_here", "_law_rank"] (spB K P_spot) :=
  okB T.F__law_spot sc__law_spot ln__law_spot (fun s ds r s' h ok cdv A outer sh H E hr => ⟨t__law_spot K, (pss_one (ps_ret (pe_callTy c_tuple (by rfl) T.n_tuple (by decide +kernel) (pa_cons (pe_lc (own := [("_law_at", 2)]) (g := (gName 2)) (tt := tYes) rfl sc__law_spot.nd (pi_range1 (by rfl) T.n_range (pa_cons (pv 1) pa_nil)) (blkOk_by (own := [("_law_at", 2)]) (N := ["_law_bag_here", "_law_rank", "_law_at"]) (sc := defScope s__law_spot) (by decide +kernel)) (fun _ _ _ _ _ => (pg_name (i := 2) sc__law_spot.nd rfl (by first | exact Or.inl rfl | exact Or.inr rfl))) (fun _ _ _ _ _ => pts_nil) (fun _ _ _ _ _ => (pe_call (ok__law_part T) (hr.mono (by decide)) (by rfl) T.g__law_part T.F__law_part.kp T.b__law_part .nil pass0 (pa_cons (pv 0) pa_nil)))) pa_nil)))), rd__law_spot h ok⟩)
theorem ok_shared (T : TX K mg) : FnOk Pg w K mg base CX0 1 T.a_shared T.d_shared ["one", "other"] (spP K P_gcd) :=
  okP T.F_shared sc_shared ln_shared (fun ds r h cdv A outer sh H E hr => ⟨t_shared K, (pss_cons (ps_par (i := 0) (j := 1) (by rfl) sc_shared.nd rfl rfl (by decide) rfl rfl (pa_cons (pe_callB c_abs (by rfl) T.n_abs (by decide +kernel) (pa_cons (pv 0) pa_nil)) (pa_cons (pe_callB c_abs (by rfl) T.n_abs (by decide +kernel) (pa_cons (pv 1) pa_nil)) pa_nil)) (by rfl))
      (pss_cons (ps_while PassesOwn.never (pt_cmpR op_gt (pv 1) pe_int (nomark _)) (pss_one (ps_par (i := 0) (j := 1) (by rfl) sc_shared.nd rfl rfl (by decide) rfl rfl (pa_cons (pv 1) (pa_cons (pe_op op_modX (pv 0) (pv 1)) pa_nil)) (by rfl))))
      (pss_one (ps_ret (pe_callB (c_max2 rfl) (by rfl) T.n_max (by decide +kernel) (pa_cons (pv 0) (pa_cons pe_int pa_nil))))))), rd_shared h⟩)
theorem ok_common_below (T : TX K mg) : FnOk Pg w K mg base CX0 2 T.a_common_below T.d_common_below ["spots"] (spW0 K P_cb) :=
  okW (fun _ => 0) T.F_common_below sc_common_below ln_common_below (fun ds A h cdv Ar outer sh H E hr => ⟨t_common_below K, (pss_cons (ps_set (i := 1) sc_common_below.nd rfl (by first | exact Or.inl rfl | exact Or.inr rfl) pe_int)
      (pss_cons (ps_for PassesOwn.never rfl (pi_seq (pv 0)) (pg_name (i := 2) sc_common_below.nd rfl (by first | exact Or.inl rfl | exact Or.inr rfl)) (pss_one (ps_for PassesOwn.never rfl (pi_tup (pv 2)) (pg_tup rfl (pgs_cons (pg_name (i := 3) sc_common_below.nd rfl (by first | exact Or.inl rfl | exact Or.inr rfl)) (pgs_cons (pg_name (i := 4) sc_common_below.nd rfl (by first | exact Or.inl rfl | exact Or.inr rfl)) pgs_nil))) (pss_one (ps_set (i := 1) sc_common_below.nd rfl (by first | exact Or.inl rfl | exact Or.inr rfl) (pe_op op_divI (pe_op op_mulI (pv 1) (pv 4)) (pe_call (ok_shared T) (hr.mono (by decide)) (by rfl) T.g_shared T.F_shared.kp T.b_shared .nil pass0 (pa_cons (pv 1) (pa_cons (pv 4) pa_nil)))))))))
      (pss_one (ps_ret (pv 1))))), rd_common_below h⟩)
theorem ok_whole_row (T : TX K mg) : FnOk Pg w K mg base CX0 1 T.a_whole_row T.d_whole_row ["spot", "common"] (spW0 K P_wr) :=
  okW (fun _ => 0) T.F_whole_row sc_whole_row ln_whole_row (fun ds A h cdv Ar outer sh H E hr => ⟨t_whole_row K, (pss_one (ps_ret (pe_lc (own := [("above", 2), ("below", 3)]) (g := (gTup K 2 (gCons (gName 2) (gCons (gName 3) gNil)))) (tt := tYes) rfl sc_whole_row.nd (pi_tup (pv 0)) (blkOk_by (own := [("above", 2), ("below", 3)]) (N := ["spot", "common", "above", "below"]) (sc := defScope s_whole_row) (by decide +kernel)) (fun _ _ _ _ _ => (pg_tup rfl (pgs_cons (pg_name (i := 2) sc_whole_row.nd rfl (by first | exact Or.inl rfl | exact Or.inr rfl)) (pgs_cons (pg_name (i := 3) sc_whole_row.nd rfl (by first | exact Or.inl rfl | exact Or.inr rfl)) pgs_nil)))) (fun _ _ _ _ _ => pts_nil) (fun _ _ _ _ _ => (pe_op op_mulI (pv 2) (pe_op op_divI (pv 1) (pv 3))))))), rd_whole_row h⟩)
theorem ok_rising (T : TX K mg) : FnOk Pg w K mg base CX0 3 T.a_rising T.d_rising ["spots"] (spW0 K P_rising) :=
  okW (fun _ => 0) T.F_rising sc_rising ln_rising (fun ds A h cdv Ar outer sh H E hr => ⟨t_rising K w, (pss_cons (ps_set (i := 1) sc_rising.nd rfl (by first | exact Or.inl rfl | exact Or.inr rfl) (pe_call (ok_common_below T) (hr.mono (by decide)) (by rfl) T.g_common_below T.F_common_below.kp T.b_common_below .nil pass0 (pa_cons (pv 0) pa_nil)))
      (pss_cons (ps_set (i := 2) sc_rising.nd rfl (by first | exact Or.inl rfl | exact Or.inr rfl) (pe_dcd (own := [("spot", 3)]) (g := (gName 3)) (tt := tYes) (u9 hr.units) rfl sc_rising.nd (pi_seq (pv 0)) (blkOk_by (own := [("spot", 3)]) (N := ["spots", "common", "by_worth", "spot", "key"]) (sc := defScope s_rising) (by decide +kernel)) (fun _ _ _ _ _ => (pg_name (i := 3) sc_rising.nd rfl (by first | exact Or.inl rfl | exact Or.inr rfl))) (fun _ _ _ _ _ => pts_nil) (fun _ _ _ _ _ => (pe_callTy c_tuple (by rfl) T.n_tuple (by decide +kernel) (pa_cons (pe_call (ok_whole_row T) (hr.mono (by decide)) (by rfl) T.g_whole_row T.F_whole_row.kp T.b_whole_row .nil pass0 (pa_cons (pv 3) (pa_cons (pv 1) pa_nil))) pa_nil))) (fun _ _ _ _ _ => (pv 3))))
      (pss_one (ps_ret (pe_lc (own := [("key", 4)]) (g := (gName 4)) (tt := tYes) rfl sc_rising.nd (pi_list (pe_callB (cr_srtD rfl hr.units) (by rfl) T.n_sorted (by decide +kernel) (pa_cons (pv 2) pa_nil))) (blkOk_by (own := [("key", 4)]) (N := ["spots", "common", "by_worth", "spot", "key"]) (sc := defScope s_rising) (by decide +kernel)) (fun _ _ _ _ _ => (pg_name (i := 4) sc_rising.nd rfl (by first | exact Or.inl rfl | exact Or.inr rfl))) (fun _ _ _ _ _ => pts_nil) (fun _ _ _ _ _ => (pe_ix (ix_dct (u9 hr.units)) (pv 2) (pv 4) (fun _ _ => rfl)))))))), rd_rising h⟩)
theorem ok__law_like (T : TX K mg) : ∀ n, FnOk Pg w K mg base CX0 n T.a__law_like T.d__law_like ["_law_found", "_law_due"] (spP K (P_like n))
  | 0 => fnok_false
  | n + 1 => okP T.F__law_like sc__law_like ln__law_like (fun ds r h cdv A outer sh H E hr => ⟨t__law_like K n, (pss_cons (ps_if (pt_val (pe_callB call_isiT (by rfl) T.n_isinstance (by decide +kernel) (pa_cons (pv 1) (pa_cons (pe_tup (pa_cons (pe_bltn (v := .ty "tuple") (by rfl) T.n_tuple (by decide +kernel) rfl) (pa_cons (pe_bltn (v := .ty "list") (by rfl) T.n_list (by decide +kernel) rfl) pa_nil))) pa_nil)))) (pss_cons (ps_if (pt_cmpR op_ne (pe_callB call_isi (by rfl) T.n_isinstance (by decide +kernel) (pa_cons (pv 0) (pa_cons (pe_bltn (v := .ty "tuple") (by rfl) T.n_tuple (by decide +kernel) rfl) pa_nil))) (pe_callB call_isi (by rfl) T.n_isinstance (by decide +kernel) (pa_cons (pv 1) (pa_cons (pe_bltn (v := .ty "tuple") (by rfl) T.n_tuple (by decide +kernel) rfl) pa_nil))) (nomark _)) (pss_one (ps_ret pe_bl)) pss_nil)
      (pss_cons (ps_if (PW.pt (pw_or (pt_not (pt_val (pe_callB call_isiT (by rfl) T.n_isinstance (by decide +kernel) (pa_cons (pv 0) (pa_cons (pe_tup (pa_cons (pe_bltn (v := .ty "tuple") (by rfl) T.n_tuple (by decide +kernel) rfl) (pa_cons (pe_bltn (v := .ty "list") (by rfl) T.n_list (by decide +kernel) rfl) pa_nil))) pa_nil))))) (pw_or1 (pt_cmpR op_ne (pe_callB c_len (by rfl) T.n_len PySem.boot_len (pa_cons (pv 0) pa_nil)) (pe_callB c_len (by rfl) T.n_len PySem.boot_len (pa_cons (pv 1) pa_nil)) (nomark _))))) (pss_one (ps_ret pe_bl)) pss_nil)
      (pss_one (ps_ret (pe_callB (cr_all rfl) (by rfl) T.n_all (by decide +kernel) (pa_cons (pe_lc (own := [("_law_at", 2)]) (g := (gName 2)) (tt := tYes) rfl sc__law_like.nd (pi_range1 (by rfl) T.n_range (pa_cons (pe_callB c_len (by rfl) T.n_len PySem.boot_len (pa_cons (pv 1) pa_nil)) pa_nil)) (blkOk_by (own := [("_law_at", 2)]) (N := ["_law_found", "_law_due", "_law_at"]) (sc := defScope s__law_like) (by decide +kernel)) (fun _ _ _ _ _ => (pg_name (i := 2) sc__law_like.nd rfl (by first | exact Or.inl rfl | exact Or.inr rfl))) (fun _ _ _ _ _ => pts_nil) (fun _ _ _ _ _ => (pe_call (ok__law_like T n) hr (by rfl) T.g__law_like T.F__law_like.kp T.b__law_like .nil pass0 (pa_cons (pe_ix ix_seq (pv 0) (pv 2) (fun _ _ => rfl)) (pa_cons (pe_ix ix_seq (pv 1) (pv 2) (fun _ _ => rfl)) pa_nil))))) pa_nil)))))) pss_nil)
      (pss_cons (ps_if (pt_val (pe_callB call_isi (by rfl) T.n_isinstance (by decide +kernel) (pa_cons (pv 1) (pa_cons (pe_bltn (v := .ty "bool") (by rfl) T.n_bool (by decide +kernel) rfl) pa_nil)))) (pss_one (ps_ret (pe_and (pe_callB call_isi (by rfl) T.n_isinstance (by decide +kernel) (pa_cons (pv 0) (pa_cons (pe_bltn (v := .ty "bool") (by rfl) T.n_bool (by decide +kernel) rfl) pa_nil))) (pe_one (pe_cmpR op_eq (pv 0) (pv 1) (nomark _)))))) pss_nil)
      (pss_cons (ps_if (pt_val (pe_callB call_isi (by rfl) T.n_isinstance (by decide +kernel) (pa_cons (pv 1) (pa_cons (pe_bltn (v := .ty "int") (by rfl) T.n_int (by decide +kernel) rfl) pa_nil)))) (pss_one (ps_ret (pe_and (pe_callB call_isi (by rfl) T.n_isinstance (by decide +kernel) (pa_cons (pv 0) (pa_cons (pe_bltn (v := .ty "int") (by rfl) T.n_int (by decide +kernel) rfl) pa_nil))) (pe_and (pe_not (pe_callB call_isi (by rfl) T.n_isinstance (by decide +kernel) (pa_cons (pv 0) (pa_cons (pe_bltn (v := .ty "bool") (by rfl) T.n_bool (by decide +kernel) rfl) pa_nil)))) (pe_one (pe_cmpR op_eq (pv 0) (pv 1) (nomark _))))))) pss_nil)
      (pss_cons (ps_if (pt_val (pe_callB call_isi (by rfl) T.n_isinstance (by decide +kernel) (pa_cons (pv 1) (pa_cons (pe_bltn (v := .ty "str") (by rfl) T.n_str (by decide +kernel) rfl) pa_nil)))) (pss_one (ps_ret (pe_and (pe_callB call_isi (by rfl) T.n_isinstance (by decide +kernel) (pa_cons (pv 0) (pa_cons (pe_bltn (v := .ty "str") (by rfl) T.n_str (by decide +kernel) rfl) pa_nil))) (pe_one (pe_cmpR op_eq (pv 0) (pv 1) (nomark _)))))) pss_nil)
      (pss_one (ps_ret (pe_and (pe_cmpR o_isN (pv 1) pe_non (nomark _)) (pe_one (pe_cmpR o_isN (pv 0) pe_non (nomark _)))))))))), rd__law_like h⟩)
theorem ok__law_far (T : TX K mg) : FnOk Pg w K mg base CX0 2 T.a__law_far T.d__law_far ["_law_bag_here"] (spB K P_far) :=
  okB T.F__law_far sc__law_far ln__law_far (fun s ds r s' h ok cdv A outer sh H E hr => ⟨t__law_far K, (pss_one (ps_ret (pe_op op_sub (pe_op op_add (pe_ix ix_seq (pe_lst (pa_cons pe_int (pa_cons pe_int (pa_cons (pe_un un_neg pe_int) (pa_cons (pe_op op_add (pe_op op_pow pe_int pe_int) pe_int) (pa_cons (pe_op op_sub (pe_un un_neg (pe_op op_pow pe_int pe_int)) pe_int) (pa_cons (pe_op op_pow pe_int pe_int) pa_nil))))))) (pe_call (ok__law_pull T) (hr.mono (by decide)) (by rfl) T.g__law_pull T.F__law_pull.kp T.b__law_pull .nil pass0 (pa_cons (pv 0) (pa_cons pe_int pa_nil))) (fun _ _ => rfl)) (pe_call (ok__law_pull T) (hr.mono (by decide)) (by rfl) T.g__law_pull T.F__law_pull.kp T.b__law_pull .nil pass0 (pa_cons (pv 0) (pa_cons pe_int pa_nil)))) pe_int))), rd__law_far h ok⟩)
theorem ok__law_far_part (T : TX K mg) : FnOk Pg w K mg base CX0 3 T.a__law_far_part T.d__law_far_part ["_law_bag_here"] (spB K P_farPart) :=
  okB T.F__law_far_part sc__law_far_part ln__law_far_part (fun s ds r s' h ok cdv A outer sh H E hr => ⟨t__law_far_part K, (pss_one (ps_ret (pe_call (ok__law_frac T) (hr.mono (by decide)) (by rfl) T.g__law_frac T.F__law_frac.kp T.b__law_frac .nil pass0 (pa_cons (pe_call (ok__law_far T) (hr.mono (by decide)) (by rfl) T.g__law_far T.F__law_far.kp T.b__law_far .nil pass0 (pa_cons (pv 0) pa_nil)) (pa_cons (pe_op op_add pe_int (pe_callB c_abs (by rfl) T.n_abs (by decide +kernel) (pa_cons (pe_call (ok__law_far T) (hr.mono (by decide)) (by rfl) T.g__law_far T.F__law_far.kp T.b__law_far .nil pass0 (pa_cons (pv 0) pa_nil)) pa_nil))) pa_nil))))), rd__law_far_part h ok⟩)
theorem ok__law_add (T : TX K mg) : FnOk Pg w K mg base CX0 3 T.a__law_add T.d__law_add ["_law_one", "_law_other"] (spP K P_add) :=
  okP T.F__law_add sc__law_add ln__law_add (fun ds r h cdv A outer sh H E hr => ⟨t__law_add K, (pss_one (ps_ret (pe_call (ok__law_frac T) (hr.mono (by decide)) (by rfl) T.g__law_frac T.F__law_frac.kp T.b__law_frac .nil pass0 (pa_cons (pe_op op_add (pe_op op_mulW (pe_ix ix_seq (pv 0) pe_int (fun _ _ => rfl)) (pe_ix ix_seq (pv 1) pe_int (fun _ _ => rfl))) (pe_op op_mulW (pe_ix ix_seq (pv 1) pe_int (fun _ _ => rfl)) (pe_ix ix_seq (pv 0) pe_int (fun _ _ => rfl)))) (pa_cons (pe_op op_mulW (pe_ix ix_seq (pv 0) pe_int (fun _ _ => rfl)) (pe_ix ix_seq (pv 1) pe_int (fun _ _ => rfl))) pa_nil))))), rd__law_add h⟩)
theorem ok__law_sign (T : TX K mg) : FnOk Pg w K mg base CX0 1 T.a__law_sign T.d__law_sign ["_law_number"] (spP K P_sign) :=
  okP T.F__law_sign sc__law_sign ln__law_sign (fun ds r h cdv A outer sh H E hr => ⟨t__law_sign K, (pss_one (ps_ret (pe_op op_sub (pe_callTy c_int1 (by rfl) T.n_int (by decide +kernel) (pa_cons (pe_cmpR op_gt (pv 0) pe_int (nomark _)) pa_nil)) (pe_callTy c_int1 (by rfl) T.n_int (by decide +kernel) (pa_cons (pe_cmpR op_lt (pv 0) pe_int (nomark _)) pa_nil))))), rd__law_sign h⟩)
theorem ok__law_cmp (T : TX K mg) : FnOk Pg w K mg base CX0 2 T.a__law_cmp T.d__law_cmp ["_law_one", "_law_other"] (spP K P_cmp) :=
  okP T.F__law_cmp sc__law_cmp ln__law_cmp (fun ds r h cdv A outer sh H E hr => ⟨t__law_cmp K, (pss_one (ps_ret (pe_call (ok__law_sign T) (hr.mono (by decide)) (by rfl) T.g__law_sign T.F__law_sign.kp T.b__law_sign .nil pass0 (pa_cons (pe_op op_sub (pe_op op_mulW (pe_ix ix_seq (pv 0) pe_int (fun _ _ => rfl)) (pe_ix ix_seq (pv 1) pe_int (fun _ _ => rfl))) (pe_op op_mulW (pe_ix ix_seq (pv 1) pe_int (fun _ _ => rfl)) (pe_ix ix_seq (pv 0) pe_int (fun _ _ => rfl)))) pa_nil)))), rd__law_cmp h⟩)
theorem ok__law_before (T : TX K mg) : FnOk Pg w K mg base CX0 3 T.a__law_before T.d__law_before ["_law_one", "_law_other"] (spW0 K P_lbefore) :=
  okW (fun _ => 0) T.F__law_before sc__law_before ln__law_before (fun ds A h cdv Ar outer sh H E hr => ⟨t__law_before K, (pss_cons (ps_for PassesOwn.never rfl (pi_range1 (by rfl) T.n_range (pa_cons (pe_callB c_len (by rfl) T.n_len PySem.boot_len (pa_cons (pv 0) pa_nil)) pa_nil)) (pg_name (i := 2) sc__law_before.nd rfl (by first | exact Or.inl rfl | exact Or.inr rfl)) (pss_cons (ps_set (i := 3) sc__law_before.nd rfl (by first | exact Or.inl rfl | exact Or.inr rfl) (pe_call (ok__law_cmp T) (hr.mono (by decide)) (by rfl) T.g__law_cmp T.F__law_cmp.kp T.b__law_cmp .nil pass0 (pa_cons (pe_ix ix_seq (pv 0) (pv 2) (fun _ _ => rfl)) (pa_cons (pe_ix ix_seq (pv 1) (pv 2) (fun _ _ => rfl)) pa_nil))))
      (pss_one (ps_if (pt_cmpR op_ne (pv 3) pe_int (nomark _)) (pss_one (ps_ret (pe_cmpR op_ltI (pv 3) pe_int (nomark _)))) pss_nil))))
      (pss_one (ps_ret pe_bl))), rd__law_before h⟩)
def t_law (K : Fg) : TS := (tSeq (tAsg (tCall (spWB K P_room) [] E0 (tCons (tVar 1) tNil)) (gName 2))
  (tSeq (tAsg (tLst tNil) (gName 3))
  (tSeq (tFor (iRng1 (tCons (tCall (spB K P_pull) [] E0 (tCons (tVar 1) (tCons (tC (V.int 9)) tNil))) tNil)) (gName 4) (tSeq (tAsg (tCall (spB K P_spot) [] E0 (tCons (tVar 1) (tCons (tVar 2) tNil))) (gName 7))
  (tSeq (tAsg (tCall (spB K P_pull) [] E0 (tCons (tVar 1) (tCons (tC (V.int 5)) tNil))) (gName 8))
  (tSeq (tIfS (tTest (tOp rEq (tVar 8) (tC (V.int 0)))) (tAsg (tCB (rTupQ K) (tCons (tLc (iRng1 (tCons (tVar 2) tNil)) (gName 10) tYes (tCall (spB K P_farPart) [] E0 (tCons (tVar 1) tNil)) [10]) tNil)) (gName 7)) tNext)
  (tSeq (tIfS (tAnd (tTest (tOp rEq (tVar 8) (tC (V.int 1)))) (tTest (tOp rGtI (tCB (rLenQ K) (tCons (tVar 3) tNil)) (tC (V.int 0))))) (tAsg (tOp (rIx K) (tVar 3) (tCall (spB K P_pull) [] E0 (tCons (tVar 1) (tCons (tCB (rLenQ K) (tCons (tVar 3) tNil)) tNil)))) (gName 7)) tNext)
  (tSeq (tIfS (tAnd (tTest (tOp rEq (tVar 8) (tC (V.int 2)))) (tTest (tOp rGtI (tCB (rLenQ K) (tCons (tVar 3) tNil)) (tC (V.int 0))))) (tAsg (tOp (rCatA K) (tSl (rSlA K) (tOp (rIx K) (tVar 3) (tUn rNegI (tC (V.int 1)))) tNoPart (tPart (tOp rSubI (tVar 2) (tC (V.int 1))))) (tTup (tCons (tCall (spP K P_add) [] E0 (tCons (tOp (rIx K) (tOp (rIx K) (tVar 3) (tUn rNegI (tC (V.int 1)))) (tUn rNegI (tC (V.int 1)))) (tCons (tTup (tCons (tC (V.int 1)) (tCons (tOp rPowI (tC (V.int 10)) (tC (V.int 20))) tNil))) tNil))) tNil))) (gName 7)) tNext)
  (tDrop (tBM K "list" rAppend (tVar 3) (tCons (tVar 7) tNil)))))))))
  (tSeq (tAsg (tCB (rListQ K) (tCons (tVar 3) tNil)) (gName 5))
  (tSeq (tFor (iRng1 (tCons (tC (V.int 2)) tNil)) (gName 6) (tSeq (tAsg (tCall (spW0 K P_rising) [] E0 (tCons (tVar 5) tNil)) (gName 9))
  (tSeq (tIfS (tOr (tNot (tB (tCB (rIsi K) (tCons (tVar 9) (tCons (tC (V.ty "list")) tNil))))) (tOr (tTest (tOp (rNeD K) (tVar 5) (tVar 3))) (tTest (tOp (rNeD K) (tCB (rSrtL K) (tCons (tVar 9) tNil)) (tSrtN K (tVar 3)))))) (tRet (tC (V.bl false))) tNext)
  (tSeq (tIfS (tNot (tB (tCB (rAll K) (tCons (tLc (iRng1 (tCons (tOp rSubI (tCB (rLenQ K) (tCons (tVar 9) tNil)) (tC (V.int 1))) tNil)) (gName 4) tYes (tCall (spW0 K P_lbefore) [] E0 (tCons (tOp (rIx K) (tVar 9) (tVar 4)) (tCons (tOp (rIx K) (tVar 9) (tOp rAddI (tVar 4) (tC (V.int 1)))) tNil))) [4]) tNil)))) (tRet (tC (V.bl false))) tNext)
  (tSeq (tIfS (tOr (tNot (tB (tCall (spP K (P_like 10)) [] E0 (tCons (tVar 9) (tCons (tCB (rListQ K) (tCons (tVar 9) tNil)) tNil))))) (tNot (tB (tCB (rAll K) (tCons (tLc (iList K (tVar 9)) (gName 7) tYes (tCB (rIsi K) (tCons (tVar 7) (tCons (tC (V.ty "tuple")) tNil))) [7]) tNil))))) (tRet (tC (V.bl false))) tNext)
  (tDrop (tBM0 K "list" rClear (tVar 9))))))))
  (tRet (tC (V.bl true))))))))
-- slots of law: 0 _law_script, 1 _law_bag_here, 2 _law_rank, 3 _law_spots, 4 _law_at, 5 _law_handed, 6 _law_step, 7 _law_spot_here, 8 _law_kind, 9 _law_found, 10 _law_k
open U.Hull
theorem rd_law (ns : List Int) (hl : ns.length ≤ 63) : SW K cs W0 (t_law K) (.d (.list (ns.map PyData.int)) :: .bag :: List.replicate (11 - 2) .un) (fun o => o = .rt (.bool true)) := qt_of (by simp (disch := with_unfolding_all
  unfold t_law
  refine sw_seq ?_
  walk_at "s"
  refine c_room fun r hr => ?_
  walk_at "s"
  refine sw_seq (sw_asgF (ef_lst0 ?_))
  refine sw_seq ?_
  walk_at "s"
  rename_i v v0 v1
  refine forN (fun i G => ∃ (ss : List Spot) (e4 e7 e8 : En), ss.length = i ∧ Sps (100 + 70 * i) r ss ∧ G = [.d (.list (ns.map PyData.int)), .bag, .d (.int r), .ow (ol (ss.map frs)), e4, .un, .un, e7, e8, .un, .un]) ⟨[], _, _, _, rfl, fun s hs => (by cases hs), rfl⟩ ?_ ?_
  · rintro i _ hi ⟨ss, e4, e7, e8, hn, hs, rfl⟩
    walk_at "w"
    rename_i s0 g0 l0 k k0 k1
    refine sw_cut (fun G => ∃ s : Spot, Gds 63 s ∧ s.length = r ∧ G = [.d (.list (ns.map PyData.int)), .bag, .d (.int r), .ow (ol (ss.map frs)), .d (.int i), .un, .un, .d (frs s), .d (.int k), .un, .un]) ?_ ?_
    · walk_at "s"
      refine cnd_d (fun z => ?_) (fun z => ?_)
      · walk_at "s"
        rw [rng_map]
        refine lcD fr (fun p => Gd 63 p) (by rw [List.length_range]; omega) (unk1 rfl) (fun x mx => ?_) ?_
        · walk_at "s"
          exact ⟨_, rfl, by assumption⟩
        intro ps hpl hps
        rw [List.length_range] at hpl
        refine ⟨_, rfl, ?_⟩
        walk_at "s"
        first
          | exact ⟨_, rfl, ps, fun p hp => hps p hp, by omega, rfl⟩
          | exact ⟨ps, fun p hp => hps p hp, by omega, rfl⟩
      · walk_at "s"
        exact ⟨s0, g0.mono (by decide), by omega, rfl⟩
    rintro _ ⟨s1, g1, l1, rfl⟩
    refine sw_cut (fun G => ∃ s : Spot, Gds (100 + 70 * i) s ∧ s.length = r ∧ G = [.d (.list (ns.map PyData.int)), .bag, .d (.int r), .ow (ol (ss.map frs)), .d (.int i), .un, .un, .d (frs s), .d (.int k), .un, .un]) ?_ ?_
    · have keep : SW K cs W0 tNext [.d (.list (ns.map PyData.int)), .bag, .d (.int r), .ow (ol (ss.map frs)), .d (.int i), .un, .un, .d (frs s1), .d (.int k), .un, .un] (fun o => ∃ G1, o = .nx G1 ∧ ∃ s : Spot, Gds (100 + 70 * i) s ∧ s.length = r ∧ G1 = [.d (.list (ns.map PyData.int)), .bag, .d (.int r), .ow (ol (ss.map frs)), .d (.int i), .un, .un, .d (frs s), .d (.int k), .un, .un]) := by
        walk_at "s"
        exact ⟨s1, g1.mono (by omega), l1, rfl⟩
      walk_at "s"
      refine cnd_d (fun z => ?_) (fun z => cnd_f keep)
      walk_at "s"
      refine cnd_d (fun z2 => ?_) (fun z2 => keep)
      rw [List.length_map] at z2
      refine sw_asg (ew_ixO (i := 3) rfl ?_)
      refine ew_callB (i := 1) rfl (aw_cons (ew_lenO (i := 3) rfl (aw_nil fun s ok => c_pull (by rw [List.length_map]; omega) (by rw [List.length_map]; omega) (fun j j0 j1 => ?_) s ok)))
      rw [List.length_map] at j1
      obtain ⟨s2, ms, es⟩ := atI_in (f := frs) (xs := ss) j0 j1
      refine ⟨_, rfl, _, es, ?_⟩
      exact ⟨_, rfl, s2, (hs s2 ms).1, (hs s2 ms).2, rfl⟩
    rintro _ ⟨s2, g2, l2, rfl⟩
    refine sw_cut (fun G => ∃ s : Spot, Gds (100 + 70 * (i + 1)) s ∧ s.length = r ∧ G = [.d (.list (ns.map PyData.int)), .bag, .d (.int r), .ow (ol (ss.map frs)), .d (.int i), .un, .un, .d (frs s), .d (.int k), .un, .un]) ?_ ?_
    · have keep : SW K cs W0 tNext [.d (.list (ns.map PyData.int)), .bag, .d (.int r), .ow (ol (ss.map frs)), .d (.int i), .un, .un, .d (frs s2), .d (.int k), .un, .un] (fun o => ∃ G1, o = .nx G1 ∧ ∃ s : Spot, Gds (100 + 70 * (i + 1)) s ∧ s.length = r ∧ G1 = [.d (.list (ns.map PyData.int)), .bag, .d (.int r), .ow (ol (ss.map frs)), .d (.int i), .un, .un, .d (frs s), .d (.int k), .un, .un]) := by
        walk_at "s"
        exact ⟨s2, g2.mono (by omega), l2, rfl⟩
      walk_at "s"
      refine cnd_d (fun z => ?_) (fun z => cnd_f keep)
      walk_at "s"
      refine cnd_d (fun z2 => ?_) (fun z2 => keep)
      rw [List.length_map] at z2
      obtain ⟨pre, last, el⟩ : ∃ pre last, ss = pre ++ [last] := ⟨ss.dropLast, ss.getLast (by intro e; rw [e] at z2; simp at z2), (List.dropLast_concat_getLast _).symm⟩
      have ml : last ∈ ss := by rw [el]; simp
      obtain ⟨gl, ll⟩ := hs last ml
      obtain ⟨f0, f1, ef⟩ : ∃ f0 f1, last = f0 ++ [f1] := ⟨last.dropLast, last.getLast (by intro e; rw [e] at ll; simp at ll; omega), (List.dropLast_concat_getLast _).symm⟩
      have a1 : atI (ss.map frs) (-1) = some (frs last) := by rw [el, List.map_append]; exact atm (k := 1) (by simp) (by decide) (by simp)
      have a2 : atI (last.map fr) (-1) = some (fr f1) := by rw [ef, List.map_append]; exact atm (k := 1) (by simp) (by decide) (by simp)
      have gf1 : Gd (100 + 70 * i) f1 := gl f1 (by rw [ef]; simp)
      have e20 : (10 : Int) ^ 20 = 100000000000000000000 := by decide
      walk_at "s"
      refine ⟨_, a1, _, rfl, ?_⟩
      walk_at "s"
      refine ⟨_, a1, _, rfl, ?_⟩
      walk_at "s"
      refine ⟨_, a2, ?_⟩
      walk_at "s"
      refine ⟨by unfold CPow; decide, ?_⟩
      rw [show (10 : Int) ^ Int.toNat 20 = 10 ^ 20 from rfl]
      walk_at "s"
      refine c_ladd (n := 100 + 70 * i) (m := 67) (q := (1, 10 ^ 20)) gf1 ⟨⟨by unfold Bd; decide, by unfold Bd; decide⟩, by decide, by decide⟩ (by omega) fun g => ?_
      walk_at "s"
      have lf : f0.length + 1 = r := by rw [← ll, ef]; simp
      have ecut : cutD (last.map fr) none (some ((r : Int) - 1)) = f0.map fr := by
        rw [show (r : Int) - 1 = ((f0.length : Nat) : Int) by omega, cutD_to, ef, List.map_append, List.take_left' (by rw [List.length_map])]
      rw [ecut]
      refine ⟨by rw [List.length_map]; show f0.length + 1 ≤ _; omega, ?_⟩
      refine ⟨_, rfl, f0 ++ [addF f1 (1, 10 ^ 20)], fun p hp => ?_, by rw [List.length_append]; exact lf, by rw [show frs (f0 ++ [addF f1 (1, 10 ^ 20)]) = .tuple (f0.map fr ++ [fr (addF f1 (1, 10 ^ 20))]) from by rw [frs, List.map_append]; rfl]; rfl⟩
      rcases List.mem_append.mp hp with hp | hp
      · exact (gl p (by rw [ef]; simp [hp])).mono (by omega)
      · rw [List.mem_singleton.mp hp]
        exact g.mono (by omega)
    rintro _ ⟨s3, g3, l3, rfl⟩
    refine sw_app (i := 3) rfl (by rw [List.length_map]; omega) ?_
    walk_at "w"
    refine ⟨ss ++ [s3], _, _, _, by simp [hn], Sps.snoc (hs.mono (by omega)) g3 l3, by rw [List.map_append]; rfl⟩
  · rintro _ ⟨ss, e4, e7, e8, hn, hs, rfl⟩
    refine sw_freeze (i := 3) rfl ?_
    refine sw_forget (i := 4) ?_
    refine sw_forget (i := 7) ?_
    walk_at "w"
    have cb : CbB 730 (1 + ss.length * (2 * 730)) ss := CbB.of fun s m => ⟨(hs s m).1.mono (by omega), by have := (hs s m).2; omega⟩
    obtain ⟨ys, hy⟩ : ∃ ys, Rising ss ys := ⟨_, risL_rising cb.spc.1 cb.spc.2.1⟩
    have nd : ys.Nodup := hy.1.imp fun {a b} hab e => by rw [e] at hab; exact sLt_irr _ hab
    have ly : ys.length ≤ ss.length := nd.length_le_of_subset fun s m => (hy.2 s).mp m
    have gy : ∀ s ∈ ys, Gds 730 s ∧ s.length = r := fun s m => ⟨(hs s ((hy.2 s).mp m)).1.mono (by omega), (hs s ((hy.2 s).mp m)).2⟩
    have ne : ∀ s ∈ ss, s ≠ [] := fun s m e => by have := (hs s m).2; rw [e] at this; simp at this; omega
    have oky : okD 9 (.list (ys.map frs)) = true := okD_list (n := 8) (by rw [List.length_map]; omega) fun x hx => by
      obtain ⟨s, m, rfl⟩ := List.mem_map.mp hx
      exact okD_frs (n := 6) (by have := (gy s m).2; omega)
    have oks : okD 9 (.list (ss.map frs)) = true := okD_list (n := 8) (by rw [List.length_map]; omega) fun x hx => by
      obtain ⟨s, m, rfl⟩ := List.mem_map.mp hx
      exact okD_frs (n := 6) (by have := (hs s m).2; omega)
    have shs : SeqAt.shaped (.list (ss.map frs)) = true := sh_frss (by omega) fun s m => by have := (hs s m).2; omega
    have shy : SeqAt.shaped (.list (ys.map frs)) = true := sh_frss (by omega) fun s m => by have := (gy s m).2; omega
    refine forN (fun i G => ∃ e6 e9, G = [.d (.list (ns.map PyData.int)), .bag, .d (.int r), .d (.list (ss.map frs)), .un, .d (.list (ss.map frs)), e6, .un, e8, e9, .un]) ⟨_, _, rfl⟩ ?_ ?_
    · rintro j _ hj ⟨e6, e9, rfl⟩
      walk_at "s"
      refine sw_seq (sw_asgF ?_)
      walk_at "ef"
      walk_at "s"
      refine ⟨_, 730, _, ss, ys, rfl, rfl, cb, by decide, by omega, ne, by omega, fun s m => by have := (hs s m).2; omega, hy, ?_⟩
      walk_at "s"
      refine sw_seq (sw_if (tw_lend (i := 9) rfl ?_))
      walk_at "s"
      refine ⟨_, kit_list_list, _, rfl, cnd_F rfl ?_⟩
      walk_at "s"
      refine ⟨shs, shs, ?_⟩
      rw [show PyData.eqv (.list (ss.map frs)) (.list (ss.map frs)) = true from eqv_self oks]
      refine ⟨_, rfl, cnd_F rfl ?_⟩
      walk_at "s"
      refine ⟨sok_spots fun s m => ne s ((hy.2 s).mp m), ?_⟩
      refine ew_srtN ?_
      walk_at "s"
      refine srt_set (ys := ys) (by omega) ne nd hy.2 fun ks eks => ?_
      rw [eks]
      obtain ⟨zs, pz, ez⟩ := perm_back (f := frs) (L := ys) (List.mergeSort_perm (ys.map frs) (PySem.W.dataLe false id)) rfl
      have ez : srtD (ys.map frs) = zs.map frs := ez
      have gz : ∀ s ∈ zs, s.length = r := fun s m => (gy s (pz.mem_iff.mp m)).2
      have lz := pz.length_eq
      have okz : okD 9 (.list (zs.map frs)) = true := okD_list (n := 8) (by rw [List.length_map]; omega) fun x hx => by
        obtain ⟨s, m, rfl⟩ := List.mem_map.mp hx
        exact okD_frs (n := 6) (by have := gz s m; omega)
      have shz : SeqAt.shaped (.list (zs.map frs)) = true := sh_frss (by omega) fun s m => by have := gz s m; omega
      rw [ez]
      refine ⟨shz, shz, ?_⟩
      rw [show PyData.eqv (.list (zs.map frs)) (.list (zs.map frs)) = true from eqv_self okz]
      refine ⟨_, rfl, cnd_F rfl ?_⟩
      walk_at "s"
      refine sw_seq (sw_if (tw_lend (i := 9) rfl ?_))
      walk_at "s"
      rw [List.length_map, rng_map]
      refine lcM (fun c : Nat => .bool true) (by rw [List.length_range]; omega) (unk1 rfl) (fun c mc => ?_) ?_
      · have hc : c + 1 < ys.length := by have := List.mem_range.mp mc; omega
        have y1 : ys[c]? = some ys[c] := List.getElem?_eq_getElem (by omega)
        have y2 : ys[c + 1]? = some (ys[c + 1]'hc) := List.getElem?_eq_getElem hc
        have lt : sLt ys[c] (ys[c + 1]'hc) := List.pairwise_iff_getElem.mp hy.1 c (c + 1) (by omega) hc (by omega)
        have m1 := gy _ (List.mem_of_getElem? y1)
        have m2 := gy _ (List.mem_of_getElem? y2)
        walk_at "s"
        refine ⟨_, atI_nat (by rw [List.getElem?_map, y1]; rfl), ?_⟩
        walk_at "s"
        refine ⟨_, atI_nat (j := c + 1) (by rw [List.getElem?_map, y2]; rfl), ?_⟩
        walk_at "s"
        refine ⟨r, _, _, rfl, hr, m1.1.mono (by decide), m1.2, m2.1.mono (by decide), m2.2, ?_⟩
        walk_at "s"
        rw [decide_eq_true lt]
      refine ⟨_, rfl, ?_⟩
      walk_at "s"
      refine cnd_b (fun hall => ?_) (fun hall => ?_)
      · simp at hall
      walk_at "s"
      refine sw_seq (sw_if (tw_lend (i := 9) rfl ?_))
      walk_at "s"
      refine c_like rfl oky ?_
      walk_at "s"
      refine lcM (fun c : Spot => .bool true) (by omega) (unk1 rfl) (fun c mc => ?_) ?_
      · walk_at "s"
        exact ⟨_, kit_tuple_tuple, rfl⟩
      refine ⟨_, rfl, ?_⟩
      walk_at "s"
      refine cnd_b (fun hall => ?_) (fun hall => ?_)
      · simp at hall
      walk_at "s"
      exact ⟨_, _, rfl⟩
    · rintro _ ⟨e6, e9, rfl⟩
      walk_at "w"
      rfl
  ) only [↓qt_eq])
theorem ok_law (T : TX K mg) {f : Addr} {fd : FuncData} (F : Fun K "law" "law" s_law f fd) : FnOk Pg w K mg base CX0 11 f fd ["_law_script"] (spP K PLaw) :=
  okLawW (fun _ => 0) F sc_law rfl (by decide) (fun ns hl cdv A outer sh H E hr => ⟨t_law K, (pss_cons (ps_set (i := 1) sc_law.nd rfl (by first | exact Or.inl rfl | exact Or.inr rfl) (pe_call (ok__law_bag T) (hr.mono (by decide)) (by rfl) T.g__law_bag T.F__law_bag.kp T.b__law_bag .nil pass0 (pa_cons (pv 0) pa_nil)))
      (pss_cons (ps_set (i := 2) sc_law.nd rfl (by first | exact Or.inl rfl | exact Or.inr rfl) (pe_call (ok__law_room T) (hr.mono (by decide)) (by rfl) T.g__law_room T.F__law_room.kp T.b__law_room .nil pass0 (pa_cons (pv 1) pa_nil)))
      (pss_cons (ps_set (i := 3) sc_law.nd rfl (by first | exact Or.inl rfl | exact Or.inr rfl) (pe_lst pa_nil))
      (pss_cons (ps_for PassesOwn.never rfl (pi_range1 (by rfl) T.n_range (pa_cons (pe_call (ok__law_pull T) (hr.mono (by decide)) (by rfl) T.g__law_pull T.F__law_pull.kp T.b__law_pull .nil pass0 (pa_cons (pv 1) (pa_cons pe_int pa_nil))) pa_nil)) (pg_name (i := 4) sc_law.nd rfl (by first | exact Or.inl rfl | exact Or.inr rfl)) (pss_cons (ps_set (i := 7) sc_law.nd rfl (by first | exact Or.inl rfl | exact Or.inr rfl) (pe_call (ok__law_spot T) (hr.mono (by decide)) (by rfl) T.g__law_spot T.F__law_spot.kp T.b__law_spot .nil pass0 (pa_cons (pv 1) (pa_cons (pv 2) pa_nil))))
      (pss_cons (ps_set (i := 8) sc_law.nd rfl (by first | exact Or.inl rfl | exact Or.inr rfl) (pe_call (ok__law_pull T) (hr.mono (by decide)) (by rfl) T.g__law_pull T.F__law_pull.kp T.b__law_pull .nil pass0 (pa_cons (pv 1) (pa_cons pe_int pa_nil))))
      (pss_cons (ps_if (pt_cmpR op_eq (pv 8) pe_int (nomark _)) (pss_one (ps_set (i := 7) sc_law.nd rfl (by first | exact Or.inl rfl | exact Or.inr rfl) (pe_callTy c_tuple (by rfl) T.n_tuple (by decide +kernel) (pa_cons (pe_lc (own := [("_law_k", 10)]) (g := (gName 10)) (tt := tYes) rfl sc_law.nd (pi_range1 (by rfl) T.n_range (pa_cons (pv 2) pa_nil)) (blkOk_by (own := [("_law_k", 10)]) (N := ["_law_script", "_law_bag_here", "_law_rank", "_law_spots", "_law_at", "_law_handed", "_law_step", "_law_spot_here", "_law_kind", "_law_found", "_law_k"]) (sc := defScope s_law) (by decide +kernel)) (fun _ _ _ _ _ => (pg_name (i := 10) sc_law.nd rfl (by first | exact Or.inl rfl | exact Or.inr rfl))) (fun _ _ _ _ _ => pts_nil) (fun _ _ _ _ _ => (pe_call (ok__law_far_part T) (hr.mono (by decide)) (by rfl) T.g__law_far_part T.F__law_far_part.kp T.b__law_far_part .nil pass0 (pa_cons (pv 1) pa_nil)))) pa_nil)))) pss_nil)
      (pss_cons (ps_if (PW.pt (pw_and (pt_cmpR op_eq (pv 8) pe_int (nomark _)) (pw_and1 (pt_cmpR op_gtI (pe_callB c_len (by rfl) T.n_len PySem.boot_len (pa_cons (pv 3) pa_nil)) pe_int (nomark _))))) (pss_one (ps_set (i := 7) sc_law.nd rfl (by first | exact Or.inl rfl | exact Or.inr rfl) (pe_ix ix_seq (pv 3) (pe_call (ok__law_pull T) (hr.mono (by decide)) (by rfl) T.g__law_pull T.F__law_pull.kp T.b__law_pull .nil pass0 (pa_cons (pv 1) (pa_cons (pe_callB c_len (by rfl) T.n_len PySem.boot_len (pa_cons (pv 3) pa_nil)) pa_nil))) (fun _ _ => rfl)))) pss_nil)
      (pss_cons (ps_if (PW.pt (pw_and (pt_cmpR op_eq (pv 8) pe_int (nomark _)) (pw_and1 (pt_cmpR op_gtI (pe_callB c_len (by rfl) T.n_len PySem.boot_len (pa_cons (pv 3) pa_nil)) pe_int (nomark _))))) (pss_one (ps_set (i := 7) sc_law.nd rfl (by first | exact Or.inl rfl | exact Or.inr rfl) (pe_op op_catA (pe_slice sl_tupA (pe_ix ix_seq (pv 3) (pe_un un_negI pe_int) (fun _ _ => rfl)) po_none (po_some (pe_op op_subI (pv 2) pe_int))) (pe_tup (pa_cons (pe_call (ok__law_add T) (hr.mono (by decide)) (by rfl) T.g__law_add T.F__law_add.kp T.b__law_add .nil pass0 (pa_cons (pe_ix ix_seq (pe_ix ix_seq (pv 3) (pe_un un_negI pe_int) (fun _ _ => rfl)) (pe_un un_negI pe_int) (fun _ _ => rfl)) (pa_cons (pe_tup (pa_cons pe_int (pa_cons (pe_op op_powI pe_int pe_int) pa_nil))) pa_nil))) pa_nil))))) pss_nil)
      (pss_one (ps_expr (pe_bm PySem.F.plainAttrs_list PySem.F.slot_list_append PySem.F.type_list_append mt_append (pv 3) (pa_cons (pv 7) pa_nil))))))))))
      (pss_cons (ps_set (i := 5) sc_law.nd rfl (by first | exact Or.inl rfl | exact Or.inr rfl) (pe_callTy c_list (by rfl) T.n_list (by decide +kernel) (pa_cons (pv 3) pa_nil)))
      (pss_cons (ps_for PassesOwn.never rfl (pi_range1 (by rfl) T.n_range (pa_cons pe_int pa_nil)) (pg_name (i := 6) sc_law.nd rfl (by first | exact Or.inl rfl | exact Or.inr rfl)) (pss_cons (ps_set (i := 9) sc_law.nd rfl (by first | exact Or.inl rfl | exact Or.inr rfl) (pe_call (ok_rising T) (hr.mono (by decide)) (by rfl) T.g_rising T.F_rising.kp T.b_rising .nil pass0 (pa_cons (pv 5) pa_nil)))
      (pss_cons (ps_if (PW.pt (pw_or (pt_not (pt_val (pe_callB call_isi (by rfl) T.n_isinstance (by decide +kernel) (pa_cons (pv 9) (pa_cons (pe_bltn (v := .ty "list") (by rfl) T.n_list (by decide +kernel) rfl) pa_nil))))) (pw_or (pt_cmpR (op_neD hr.units) (pv 5) (pv 3) (nomark _)) (pw_or1 (pt_cmpR (op_neD hr.units) (pe_callB (cr_srtL hr.units) (by rfl) T.n_sorted (by decide +kernel) (pa_cons (pv 9) pa_nil)) (pe_srtN (pe_callB (cr_srtN rfl hr.units) (by rfl) T.n_sorted (by decide +kernel) (pa_cons (pe_callTy (cr_setN rfl hr.units) (by rfl) T.n_set (by decide +kernel) (pa_cons (pv 3) pa_nil)) pa_nil))) (nomark _)))))) (pss_one (ps_ret pe_bl)) pss_nil)
      (pss_cons (ps_if (pt_not (pt_val (pe_callB (cr_all rfl) (by rfl) T.n_all (by decide +kernel) (pa_cons (pe_lc (own := [("_law_at", 4)]) (g := (gName 4)) (tt := tYes) rfl sc_law.nd (pi_range1 (by rfl) T.n_range (pa_cons (pe_op op_subI (pe_callB c_len (by rfl) T.n_len PySem.boot_len (pa_cons (pv 9) pa_nil)) pe_int) pa_nil)) (blkOk_by (own := [("_law_at", 4)]) (N := ["_law_script", "_law_bag_here", "_law_rank", "_law_spots", "_law_at", "_law_handed", "_law_step", "_law_spot_here", "_law_kind", "_law_found", "_law_k"]) (sc := defScope s_law) (by decide +kernel)) (fun _ _ _ _ _ => (pg_name (i := 4) sc_law.nd rfl (by first | exact Or.inl rfl | exact Or.inr rfl))) (fun _ _ _ _ _ => pts_nil) (fun _ _ _ _ _ => (pe_call (ok__law_before T) (hr.mono (by decide)) (by rfl) T.g__law_before T.F__law_before.kp T.b__law_before .nil pass0 (pa_cons (pe_ix ix_seq (pv 9) (pv 4) (fun _ _ => rfl)) (pa_cons (pe_ix ix_seq (pv 9) (pe_op op_addI (pv 4) pe_int) (fun _ _ => rfl)) pa_nil))))) pa_nil)))) (pss_one (ps_ret pe_bl)) pss_nil)
      (pss_cons (ps_if (PW.pt (pw_or (pt_not (pt_val (pe_call (ok__law_like T 10) (hr.mono (by decide)) (by rfl) T.g__law_like T.F__law_like.kp T.b__law_like .nil pass0 (pa_cons (pv 9) (pa_cons (pe_callTy c_list (by rfl) T.n_list (by decide +kernel) (pa_cons (pv 9) pa_nil)) pa_nil))))) (pw_or1 (pt_not (pt_val (pe_callB (cr_all rfl) (by rfl) T.n_all (by decide +kernel) (pa_cons (pe_lc (own := [("_law_spot_here", 7)]) (g := (gName 7)) (tt := tYes) rfl sc_law.nd (pi_list (pv 9)) (blkOk_by (own := [("_law_spot_here", 7)]) (N := ["_law_script", "_law_bag_here", "_law_rank", "_law_spots", "_law_at", "_law_handed", "_law_step", "_law_spot_here", "_law_kind", "_law_found", "_law_k"]) (sc := defScope s_law) (by decide +kernel)) (fun _ _ _ _ _ => (pg_name (i := 7) sc_law.nd rfl (by first | exact Or.inl rfl | exact Or.inr rfl))) (fun _ _ _ _ _ => pts_nil) (fun _ _ _ _ _ => (pe_callB call_isi (by rfl) T.n_isinstance (by decide +kernel) (pa_cons (pv 7) (pa_cons (pe_bltn (v := .ty "tuple") (by rfl) T.n_tuple (by decide +kernel) rfl) pa_nil))))) pa_nil))))))) (pss_one (ps_ret pe_bl)) pss_nil)
      (pss_one (ps_expr (pe_bm0 PySem.F.plainAttrs_list PySem.F.slot_list_clear PySem.F.type_list_clear mt_clear (pv 9)))))))))
      (pss_one (ps_ret pe_bl)))))))), rd_law ns hl⟩)
end
theorem lel0 {α : Type} {us : List α} (hl : us.length = 0) : us = [] := List.eq_nil_of_length_eq_zero hl
theorem lel1 {α : Type} {us : List α} (hl : us.length = 1) : ∃ a0, us = [a0] := by
  cases us with
  | nil => cases hl
  | cons a0 r => obtain rfl := lel0 (us := r) (Nat.succ.inj hl); exact ⟨a0, rfl⟩
theorem lel2 {α : Type} {us : List α} (hl : us.length = 2) : ∃ a0 a1, us = [a0, a1] := by
  cases us with
  | nil => cases hl
  | cons a0 r => obtain ⟨a1, rfl⟩ := lel1 (us := r) (Nat.succ.inj hl); exact ⟨a0, a1, rfl⟩
theorem lel3 {α : Type} {us : List α} (hl : us.length = 3) : ∃ a0 a1 a2, us = [a0, a1, a2] := by
  cases us with
  | nil => cases hl
  | cons a0 r => obtain ⟨a1, a2, rfl⟩ := lel2 (us := r) (Nat.succ.inj hl); exact ⟨a0, a1, a2, rfl⟩
theorem lel4 {α : Type} {us : List α} (hl : us.length = 4) : ∃ a0 a1 a2 a3, us = [a0, a1, a2, a3] := by
  cases us with
  | nil => cases hl
  | cons a0 r => obtain ⟨a1, a2, a3, rfl⟩ := lel3 (us := r) (Nat.succ.inj hl); exact ⟨a0, a1, a2, a3, rfl⟩
theorem lel5 {α : Type} {us : List α} (hl : us.length = 5) : ∃ a0 a1 a2 a3 a4, us = [a0, a1, a2, a3, a4] := by
  cases us with
  | nil => cases hl
  | cons a0 r => obtain ⟨a1, a2, a3, a4, rfl⟩ := lel4 (us := r) (Nat.succ.inj hl); exact ⟨a0, a1, a2, a3, a4, rfl⟩
theorem lel6 {α : Type} {us : List α} (hl : us.length = 6) : ∃ a0 a1 a2 a3 a4 a5, us = [a0, a1, a2, a3, a4, a5] := by
  cases us with
  | nil => cases hl
  | cons a0 r => obtain ⟨a1, a2, a3, a4, a5, rfl⟩ := lel5 (us := r) (Nat.succ.inj hl); exact ⟨a0, a1, a2, a3, a4, a5, rfl⟩
theorem lel7 {α : Type} {us : List α} (hl : us.length = 7) : ∃ a0 a1 a2 a3 a4 a5 a6, us = [a0, a1, a2, a3, a4, a5, a6] := by
  cases us with
  | nil => cases hl
  | cons a0 r => obtain ⟨a1, a2, a3, a4, a5, a6, rfl⟩ := lel6 (us := r) (Nat.succ.inj hl); exact ⟨a0, a1, a2, a3, a4, a5, a6, rfl⟩
theorem lel8 {α : Type} {us : List α} (hl : us.length = 8) : ∃ a0 a1 a2 a3 a4 a5 a6 a7, us = [a0, a1, a2, a3, a4, a5, a6, a7] := by
  cases us with
  | nil => cases hl
  | cons a0 r => obtain ⟨a1, a2, a3, a4, a5, a6, a7, rfl⟩ := lel7 (us := r) (Nat.succ.inj hl); exact ⟨a0, a1, a2, a3, a4, a5, a6, a7, rfl⟩
theorem all_mk {l : PySem.W.OpenLaw} {w : World} {K : PySem.W.Frag} {h : Heap} {mg : Str → Option Value} {fa f0 f1 f2 f3 f4 f5 f6 f7 f8 f9 f10 f11 f12 f13 f14 f15 f16 f17 f18 : Addr} (X : K.In h) (G : h.Ns mainGlobals mg) (hfa : mg "law" = some (.ref fa))
    {od0 an0 : Option Addr} {sl0 : Array (Option Value)} {oc0 kV0 dc0 pm0 cd0 ct0 : Value}
    {od1 an1 : Option Addr} {sl1 : Array (Option Value)} {oc1 kV1 dc1 pm1 cd1 ct1 : Value}
    {od2 an2 : Option Addr} {sl2 : Array (Option Value)} {oc2 kV2 dc2 pm2 cd2 ct2 : Value}
    {od3 an3 : Option Addr} {sl3 : Array (Option Value)} {oc3 kV3 dc3 pm3 cd3 ct3 : Value}
    {od4 an4 : Option Addr} {sl4 : Array (Option Value)} {oc4 kV4 dc4 pm4 cd4 ct4 : Value}
    {od5 an5 : Option Addr} {sl5 : Array (Option Value)} {oc5 kV5 dc5 pm5 cd5 ct5 : Value}
    {od6 an6 : Option Addr} {sl6 : Array (Option Value)} {oc6 kV6 dc6 pm6 cd6 ct6 : Value}
    {od7 an7 : Option Addr} {sl7 : Array (Option Value)} {oc7 kV7 dc7 pm7 cd7 ct7 : Value}
    {od8 an8 : Option Addr} {sl8 : Array (Option Value)} {oc8 kV8 dc8 pm8 cd8 ct8 : Value}
    {od9 an9 : Option Addr} {sl9 : Array (Option Value)} {oc9 kV9 dc9 pm9 cd9 ct9 : Value}
    {od10 an10 : Option Addr} {sl10 : Array (Option Value)} {oc10 kV10 dc10 pm10 cd10 ct10 : Value}
    {od11 an11 : Option Addr} {sl11 : Array (Option Value)} {oc11 kV11 dc11 pm11 cd11 ct11 : Value}
    {od12 an12 : Option Addr} {sl12 : Array (Option Value)} {oc12 kV12 dc12 pm12 cd12 ct12 : Value}
    {od13 an13 : Option Addr} {sl13 : Array (Option Value)} {oc13 kV13 dc13 pm13 cd13 ct13 : Value}
    {od14 an14 : Option Addr} {sl14 : Array (Option Value)} {oc14 kV14 dc14 pm14 cd14 ct14 : Value}
    {od15 an15 : Option Addr} {sl15 : Array (Option Value)} {oc15 kV15 dc15 pm15 cd15 ct15 : Value}
    {od16 an16 : Option Addr} {sl16 : Array (Option Value)} {oc16 kV16 dc16 pm16 cd16 ct16 : Value}
    {od17 an17 : Option Addr} {sl17 : Array (Option Value)} {oc17 kV17 dc17 pm17 cd17 ct17 : Value}
    {od18 an18 : Option Addr} {sl18 : Array (Option Value)} {oc18 kV18 dc18 pm18 cd18 ct18 : Value}
    (a0 : PySem.W.nsIn K mainGlobals "_law_bag" = some (some (.ref f0))) (l0 : K.lookup f0 = some ⟨oc0, od0, .func (PySem.W.fnOf "_law_bag" "_law_bag" (defArgs s__law_bag) (defBody s__law_bag) (defScope s__law_bag) .none kV0 dc0 pm0 an0 cd0 ct0), sl0⟩) (c0 : PySem.W.codeIn K cd0 "_law_bag" = true) (k0 : PySem.W.keepIn K (.ref f0) = true)
    (a1 : PySem.W.nsIn K mainGlobals "_law_pull" = some (some (.ref f1))) (l1 : K.lookup f1 = some ⟨oc1, od1, .func (PySem.W.fnOf "_law_pull" "_law_pull" (defArgs s__law_pull) (defBody s__law_pull) (defScope s__law_pull) .none kV1 dc1 pm1 an1 cd1 ct1), sl1⟩) (c1 : PySem.W.codeIn K cd1 "_law_pull" = true) (k1 : PySem.W.keepIn K (.ref f1) = true)
    (a2 : PySem.W.nsIn K mainGlobals "_law_room" = some (some (.ref f2))) (l2 : K.lookup f2 = some ⟨oc2, od2, .func (PySem.W.fnOf "_law_room" "_law_room" (defArgs s__law_room) (defBody s__law_room) (defScope s__law_room) .none kV2 dc2 pm2 an2 cd2 ct2), sl2⟩) (c2 : PySem.W.codeIn K cd2 "_law_room" = true) (k2 : PySem.W.keepIn K (.ref f2) = true)
    (a3 : PySem.W.nsIn K mainGlobals "_law_gcd" = some (some (.ref f3))) (l3 : K.lookup f3 = some ⟨oc3, od3, .func (PySem.W.fnOf "_law_gcd" "_law_gcd" (defArgs s__law_gcd) (defBody s__law_gcd) (defScope s__law_gcd) .none kV3 dc3 pm3 an3 cd3 ct3), sl3⟩) (c3 : PySem.W.codeIn K cd3 "_law_gcd" = true) (k3 : PySem.W.keepIn K (.ref f3) = true)
    (a4 : PySem.W.nsIn K mainGlobals "_law_frac" = some (some (.ref f4))) (l4 : K.lookup f4 = some ⟨oc4, od4, .func (PySem.W.fnOf "_law_frac" "_law_frac" (defArgs s__law_frac) (defBody s__law_frac) (defScope s__law_frac) .none kV4 dc4 pm4 an4 cd4 ct4), sl4⟩) (c4 : PySem.W.codeIn K cd4 "_law_frac" = true) (k4 : PySem.W.keepIn K (.ref f4) = true)
    (a5 : PySem.W.nsIn K mainGlobals "_law_part" = some (some (.ref f5))) (l5 : K.lookup f5 = some ⟨oc5, od5, .func (PySem.W.fnOf "_law_part" "_law_part" (defArgs s__law_part) (defBody s__law_part) (defScope s__law_part) .none kV5 dc5 pm5 an5 cd5 ct5), sl5⟩) (c5 : PySem.W.codeIn K cd5 "_law_part" = true) (k5 : PySem.W.keepIn K (.ref f5) = true)
    (a6 : PySem.W.nsIn K mainGlobals "_law_spot" = some (some (.ref f6))) (l6 : K.lookup f6 = some ⟨oc6, od6, .func (PySem.W.fnOf "_law_spot" "_law_spot" (defArgs s__law_spot) (defBody s__law_spot) (defScope s__law_spot) .none kV6 dc6 pm6 an6 cd6 ct6), sl6⟩) (c6 : PySem.W.codeIn K cd6 "_law_spot" = true) (k6 : PySem.W.keepIn K (.ref f6) = true)
    (a7 : PySem.W.nsIn K mainGlobals "shared" = some (some (.ref f7))) (l7 : K.lookup f7 = some ⟨oc7, od7, .func (PySem.W.fnOf "shared" "shared" (defArgs s_shared) (defBody s_shared) (defScope s_shared) .none kV7 dc7 pm7 an7 cd7 ct7), sl7⟩) (c7 : PySem.W.codeIn K cd7 "shared" = true) (k7 : PySem.W.keepIn K (.ref f7) = true)
    (a8 : PySem.W.nsIn K mainGlobals "common_below" = some (some (.ref f8))) (l8 : K.lookup f8 = some ⟨oc8, od8, .func (PySem.W.fnOf "common_below" "common_below" (defArgs s_common_below) (defBody s_common_below) (defScope s_common_below) .none kV8 dc8 pm8 an8 cd8 ct8), sl8⟩) (c8 : PySem.W.codeIn K cd8 "common_below" = true) (k8 : PySem.W.keepIn K (.ref f8) = true)
    (a9 : PySem.W.nsIn K mainGlobals "whole_row" = some (some (.ref f9))) (l9 : K.lookup f9 = some ⟨oc9, od9, .func (PySem.W.fnOf "whole_row" "whole_row" (defArgs s_whole_row) (defBody s_whole_row) (defScope s_whole_row) .none kV9 dc9 pm9 an9 cd9 ct9), sl9⟩) (c9 : PySem.W.codeIn K cd9 "whole_row" = true) (k9 : PySem.W.keepIn K (.ref f9) = true)
    (a10 : PySem.W.nsIn K mainGlobals "rising" = some (some (.ref f10))) (l10 : K.lookup f10 = some ⟨oc10, od10, .func (PySem.W.fnOf "rising" "rising" (defArgs s_rising) (defBody s_rising) (defScope s_rising) .none kV10 dc10 pm10 an10 cd10 ct10), sl10⟩) (c10 : PySem.W.codeIn K cd10 "rising" = true) (k10 : PySem.W.keepIn K (.ref f10) = true)
    (a11 : PySem.W.nsIn K mainGlobals "_law_like" = some (some (.ref f11))) (l11 : K.lookup f11 = some ⟨oc11, od11, .func (PySem.W.fnOf "_law_like" "_law_like" (defArgs s__law_like) (defBody s__law_like) (defScope s__law_like) .none kV11 dc11 pm11 an11 cd11 ct11), sl11⟩) (c11 : PySem.W.codeIn K cd11 "_law_like" = true) (k11 : PySem.W.keepIn K (.ref f11) = true)
    (a12 : PySem.W.nsIn K mainGlobals "_law_far" = some (some (.ref f12))) (l12 : K.lookup f12 = some ⟨oc12, od12, .func (PySem.W.fnOf "_law_far" "_law_far" (defArgs s__law_far) (defBody s__law_far) (defScope s__law_far) .none kV12 dc12 pm12 an12 cd12 ct12), sl12⟩) (c12 : PySem.W.codeIn K cd12 "_law_far" = true) (k12 : PySem.W.keepIn K (.ref f12) = true)
    (a13 : PySem.W.nsIn K mainGlobals "_law_far_part" = some (some (.ref f13))) (l13 : K.lookup f13 = some ⟨oc13, od13, .func (PySem.W.fnOf "_law_far_part" "_law_far_part" (defArgs s__law_far_part) (defBody s__law_far_part) (defScope s__law_far_part) .none kV13 dc13 pm13 an13 cd13 ct13), sl13⟩) (c13 : PySem.W.codeIn K cd13 "_law_far_part" = true) (k13 : PySem.W.keepIn K (.ref f13) = true)
    (a14 : PySem.W.nsIn K mainGlobals "_law_add" = some (some (.ref f14))) (l14 : K.lookup f14 = some ⟨oc14, od14, .func (PySem.W.fnOf "_law_add" "_law_add" (defArgs s__law_add) (defBody s__law_add) (defScope s__law_add) .none kV14 dc14 pm14 an14 cd14 ct14), sl14⟩) (c14 : PySem.W.codeIn K cd14 "_law_add" = true) (k14 : PySem.W.keepIn K (.ref f14) = true)
    (a15 : PySem.W.nsIn K mainGlobals "_law_sign" = some (some (.ref f15))) (l15 : K.lookup f15 = some ⟨oc15, od15, .func (PySem.W.fnOf "_law_sign" "_law_sign" (defArgs s__law_sign) (defBody s__law_sign) (defScope s__law_sign) .none kV15 dc15 pm15 an15 cd15 ct15), sl15⟩) (c15 : PySem.W.codeIn K cd15 "_law_sign" = true) (k15 : PySem.W.keepIn K (.ref f15) = true)
    (a16 : PySem.W.nsIn K mainGlobals "_law_cmp" = some (some (.ref f16))) (l16 : K.lookup f16 = some ⟨oc16, od16, .func (PySem.W.fnOf "_law_cmp" "_law_cmp" (defArgs s__law_cmp) (defBody s__law_cmp) (defScope s__law_cmp) .none kV16 dc16 pm16 an16 cd16 ct16), sl16⟩) (c16 : PySem.W.codeIn K cd16 "_law_cmp" = true) (k16 : PySem.W.keepIn K (.ref f16) = true)
    (a17 : PySem.W.nsIn K mainGlobals "_law_before" = some (some (.ref f17))) (l17 : K.lookup f17 = some ⟨oc17, od17, .func (PySem.W.fnOf "_law_before" "_law_before" (defArgs s__law_before) (defBody s__law_before) (defScope s__law_before) .none kV17 dc17 pm17 an17 cd17 ct17), sl17⟩) (c17 : PySem.W.codeIn K cd17 "_law_before" = true) (k17 : PySem.W.keepIn K (.ref f17) = true)
    (a18 : PySem.W.nsIn K mainGlobals "law" = some (some (.ref f18))) (l18 : K.lookup f18 = some ⟨oc18, od18, .func (PySem.W.fnOf "law" "law" (defArgs s_law) (defBody s_law) (defScope s_law) .none kV18 dc18 pm18 an18 cd18 ct18), sl18⟩) (c18 : PySem.W.codeIn K cd18 "law" = true) (k18 : PySem.W.keepIn K (.ref f18) = true)
    (z0 : PySem.W.nsIn K mainGlobals "abs" = some none)
    (z1 : PySem.W.nsIn K mainGlobals "all" = some none)
    (z2 : PySem.W.nsIn K mainGlobals "bool" = some none)
    (z3 : PySem.W.nsIn K mainGlobals "int" = some none)
    (z4 : PySem.W.nsIn K mainGlobals "isinstance" = some none)
    (z5 : PySem.W.nsIn K mainGlobals "len" = some none)
    (z6 : PySem.W.nsIn K mainGlobals "list" = some none)
    (z7 : PySem.W.nsIn K mainGlobals "max" = some none)
    (z8 : PySem.W.nsIn K mainGlobals "range" = some none)
    (z9 : PySem.W.nsIn K mainGlobals "set" = some none)
    (z10 : PySem.W.nsIn K mainGlobals "sorted" = some none)
    (z11 : PySem.W.nsIn K mainGlobals "str" = some none)
    (z12 : PySem.W.nsIn K mainGlobals "tuple" = some none)
    : ∃ fd : FuncData, (∀ (s : Shared) (v : Value), BindsTo s fd ⟨[v], []⟩ [("_law_script", v)]) ∧ ∀ base : Heap, K.In base → base.Ns mainGlobals mg → FnOk l.prog w K mg base CX0 11 fa fd ["_law_script"] (spP K PLaw) := qt_of (by simp (disch := with_unfolding_all
  have e := hfa.symm.trans (PySem.W.mg_of X G a18)
  cases e
  have F0 := fun_mk (st := s__law_bag) l0 c0 k0
  have b0 := F0.binds (ps := ["_law_script"]) fun _ _ _ _ _ _ us hl => by first | (obtain ⟨_, rfl⟩ := lel1 hl; exact rfl) | exact (match us, hl with | [_], _ => rfl)
  have F1 := fun_mk (st := s__law_pull) l1 c1 k1
  have b1 := F1.binds (ps := ["_law_bag_here", "_law_size"]) fun _ _ _ _ _ _ us hl => by first | (obtain ⟨_, _, rfl⟩ := lel2 hl; exact rfl) | exact (match us, hl with | [_, _], _ => rfl)
  have F2 := fun_mk (st := s__law_room) l2 c2 k2
  have b2 := F2.binds (ps := ["_law_bag_here"]) fun _ _ _ _ _ _ us hl => by first | (obtain ⟨_, rfl⟩ := lel1 hl; exact rfl) | exact (match us, hl with | [_], _ => rfl)
  have F3 := fun_mk (st := s__law_gcd) l3 c3 k3
  have b3 := F3.binds (ps := ["_law_one", "_law_other"]) fun _ _ _ _ _ _ us hl => by first | (obtain ⟨_, _, rfl⟩ := lel2 hl; exact rfl) | exact (match us, hl with | [_, _], _ => rfl)
  have F4 := fun_mk (st := s__law_frac) l4 c4 k4
  have b4 := F4.binds (ps := ["_law_above", "_law_below"]) fun _ _ _ _ _ _ us hl => by first | (obtain ⟨_, _, rfl⟩ := lel2 hl; exact rfl) | exact (match us, hl with | [_, _], _ => rfl)
  have F5 := fun_mk (st := s__law_part) l5 c5 k5
  have b5 := F5.binds (ps := ["_law_bag_here"]) fun _ _ _ _ _ _ us hl => by first | (obtain ⟨_, rfl⟩ := lel1 hl; exact rfl) | exact (match us, hl with | [_], _ => rfl)
  have F6 := fun_mk (st := s__law_spot) l6 c6 k6
  have b6 := F6.binds (ps := ["_law_bag_here", "_law_rank"]) fun _ _ _ _ _ _ us hl => by first | (obtain ⟨_, _, rfl⟩ := lel2 hl; exact rfl) | exact (match us, hl with | [_, _], _ => rfl)
  have F7 := fun_mk (st := s_shared) l7 c7 k7
  have b7 := F7.binds (ps := ["one", "other"]) fun _ _ _ _ _ _ us hl => by first | (obtain ⟨_, _, rfl⟩ := lel2 hl; exact rfl) | exact (match us, hl with | [_, _], _ => rfl)
  have F8 := fun_mk (st := s_common_below) l8 c8 k8
  have b8 := F8.binds (ps := ["spots"]) fun _ _ _ _ _ _ us hl => by first | (obtain ⟨_, rfl⟩ := lel1 hl; exact rfl) | exact (match us, hl with | [_], _ => rfl)
  have F9 := fun_mk (st := s_whole_row) l9 c9 k9
  have b9 := F9.binds (ps := ["spot", "common"]) fun _ _ _ _ _ _ us hl => by first | (obtain ⟨_, _, rfl⟩ := lel2 hl; exact rfl) | exact (match us, hl with | [_, _], _ => rfl)
  have F10 := fun_mk (st := s_rising) l10 c10 k10
  have b10 := F10.binds (ps := ["spots"]) fun _ _ _ _ _ _ us hl => by first | (obtain ⟨_, rfl⟩ := lel1 hl; exact rfl) | exact (match us, hl with | [_], _ => rfl)
  have F11 := fun_mk (st := s__law_like) l11 c11 k11
  have b11 := F11.binds (ps := ["_law_found", "_law_due"]) fun _ _ _ _ _ _ us hl => by first | (obtain ⟨_, _, rfl⟩ := lel2 hl; exact rfl) | exact (match us, hl with | [_, _], _ => rfl)
  have F12 := fun_mk (st := s__law_far) l12 c12 k12
  have b12 := F12.binds (ps := ["_law_bag_here"]) fun _ _ _ _ _ _ us hl => by first | (obtain ⟨_, rfl⟩ := lel1 hl; exact rfl) | exact (match us, hl with | [_], _ => rfl)
  have F13 := fun_mk (st := s__law_far_part) l13 c13 k13
  have b13 := F13.binds (ps := ["_law_bag_here"]) fun _ _ _ _ _ _ us hl => by first | (obtain ⟨_, rfl⟩ := lel1 hl; exact rfl) | exact (match us, hl with | [_], _ => rfl)
  have F14 := fun_mk (st := s__law_add) l14 c14 k14
  have b14 := F14.binds (ps := ["_law_one", "_law_other"]) fun _ _ _ _ _ _ us hl => by first | (obtain ⟨_, _, rfl⟩ := lel2 hl; exact rfl) | exact (match us, hl with | [_, _], _ => rfl)
  have F15 := fun_mk (st := s__law_sign) l15 c15 k15
  have b15 := F15.binds (ps := ["_law_number"]) fun _ _ _ _ _ _ us hl => by first | (obtain ⟨_, rfl⟩ := lel1 hl; exact rfl) | exact (match us, hl with | [_], _ => rfl)
  have F16 := fun_mk (st := s__law_cmp) l16 c16 k16
  have b16 := F16.binds (ps := ["_law_one", "_law_other"]) fun _ _ _ _ _ _ us hl => by first | (obtain ⟨_, _, rfl⟩ := lel2 hl; exact rfl) | exact (match us, hl with | [_, _], _ => rfl)
  have F17 := fun_mk (st := s__law_before) l17 c17 k17
  have b17 := F17.binds (ps := ["_law_one", "_law_other"]) fun _ _ _ _ _ _ us hl => by first | (obtain ⟨_, _, rfl⟩ := lel2 hl; exact rfl) | exact (match us, hl with | [_, _], _ => rfl)
  have F18 := fun_mk (st := s_law) l18 c18 k18
  have T : TX K mg := { a__law_bag := f0, d__law_bag := _, F__law_bag := F0, g__law_bag := PySem.W.mg_of X G a0, b__law_bag := b0, a__law_pull := f1, d__law_pull := _, F__law_pull := F1, g__law_pull := PySem.W.mg_of X G a1, b__law_pull := b1, a__law_room := f2, d__law_room := _, F__law_room := F2, g__law_room := PySem.W.mg_of X G a2, b__law_room := b2, a__law_gcd := f3, d__law_gcd := _, F__law_gcd := F3, g__law_gcd := PySem.W.mg_of X G a3, b__law_gcd := b3, a__law_frac := f4, d__law_frac := _, F__law_frac := F4, g__law_frac := PySem.W.mg_of X G a4, b__law_frac := b4, a__law_part := f5, d__law_part := _, F__law_part := F5, g__law_part := PySem.W.mg_of X G a5, b__law_part := b5, a__law_spot := f6, d__law_spot := _, F__law_spot := F6, g__law_spot := PySem.W.mg_of X G a6, b__law_spot := b6, a_shared := f7, d_shared := _, F_shared := F7, g_shared := PySem.W.mg_of X G a7, b_shared := b7, a_common_below := f8, d_common_below := _, F_common_below := F8, g_common_below := PySem.W.mg_of X G a8, b_common_below := b8, a_whole_row := f9, d_whole_row := _, F_whole_row := F9, g_whole_row := PySem.W.mg_of X G a9, b_whole_row := b9, a_rising := f10, d_rising := _, F_rising := F10, g_rising := PySem.W.mg_of X G a10, b_rising := b10, a__law_like := f11, d__law_like := _, F__law_like := F11, g__law_like := PySem.W.mg_of X G a11, b__law_like := b11, a__law_far := f12, d__law_far := _, F__law_far := F12, g__law_far := PySem.W.mg_of X G a12, b__law_far := b12, a__law_far_part := f13, d__law_far_part := _, F__law_far_part := F13, g__law_far_part := PySem.W.mg_of X G a13, b__law_far_part := b13, a__law_add := f14, d__law_add := _, F__law_add := F14, g__law_add := PySem.W.mg_of X G a14, b__law_add := b14, a__law_sign := f15, d__law_sign := _, F__law_sign := F15, g__law_sign := PySem.W.mg_of X G a15, b__law_sign := b15, a__law_cmp := f16, d__law_cmp := _, F__law_cmp := F16, g__law_cmp := PySem.W.mg_of X G a16, b__law_cmp := b16, a__law_before := f17, d__law_before := _, F__law_before := F17, g__law_before := PySem.W.mg_of X G a17, b__law_before := b17, n_abs := PySem.W.mg_none_of X G z0, n_all := PySem.W.mg_none_of X G z1, n_bool := PySem.W.mg_none_of X G z2, n_int := PySem.W.mg_none_of X G z3, n_isinstance := PySem.W.mg_none_of X G z4, n_len := PySem.W.mg_none_of X G z5, n_list := PySem.W.mg_none_of X G z6, n_max := PySem.W.mg_none_of X G z7, n_range := PySem.W.mg_none_of X G z8, n_set := PySem.W.mg_none_of X G z9, n_sorted := PySem.W.mg_none_of X G z10, n_str := PySem.W.mg_none_of X G z11, n_tuple := PySem.W.mg_none_of X G z12 }
  exact ⟨_, fun s v => .of_eq rfl, fun base _ _ => ok_law T F18⟩
  ) only [↓qt_eq])
end Law
end U.N
open PySem PySem.W PyProof.Rows
set_option maxHeartbeats 0 in
theorem PySem.Challenge.cw_umbrage_k07_spots_in_order_holds : PySem.Challenge.rw_umbrage_k07_spots_in_order.Holds := by
  refine U.head_top ?_
  k_fill
  refine L2.walk_of (l := PySem.Challenge.rw_umbrage_k07_spots_in_order) (n := 63) (k := 11) (x := "_law_script") (CX := fun _ => L2.CX0) (sp := fun w => U.spP _ U.PLaw) rfl (by decide) rfl ⟨rfl, by decide, by decide⟩ (fun w h Y => PySem.W.kIn_of Y) ?F (fun _ _ a ns hl _ hS => ⟨fun _ => False, [.list (ns.map PyData.int)], .bool true, fun _ z => z.elim, .cons (.lst (U.less_none hS) (U.dpa_of_ints _)) .nil, ⟨ns, rfl, hl, rfl⟩, fun v H' _ d => by cases d; rfl⟩) (fun _ _ _ _ _ h => h)
  case F =>
    intro w mg fa h KX G hmg
    refine' U.N.Law.all_mk KX G hmg ?a0 ?l0 ?c0 ?k0 ?a1 ?l1 ?c1 ?k1 ?a2 ?l2 ?c2 ?k2 ?a3 ?l3 ?c3 ?k3 ?a4 ?l4 ?c4 ?k4 ?a5 ?l5 ?c5 ?k5 ?a6 ?l6 ?c6 ?k6 ?a7 ?l7 ?c7 ?k7 ?a8 ?l8 ?c8 ?k8 ?a9 ?l9 ?c9 ?k9 ?a10 ?l10 ?c10 ?k10 ?a11 ?l11 ?c11 ?k11 ?a12 ?l12 ?c12 ?k12 ?a13 ?l13 ?c13 ?k13 ?a14 ?l14 ?c14 ?k14 ?a15 ?l15 ?c15 ?k15 ?a16 ?l16 ?c16 ?k16 ?a17 ?l17 ?c17 ?k17 ?a18 ?l18 ?c18 ?k18 ?z0 ?z1 ?z2 ?z3 ?z4 ?z5 ?z6 ?z7 ?z8 ?z9 ?z10 ?z11 ?z12
    (case a0 => k_is); (case l0 => k_is); (case c0 => k_is); (case k0 => k_is); (case a1 => k_is); (case l1 => k_is); (case c1 => k_is); (case k1 => k_is); (case a2 => k_is); (case l2 => k_is); (case c2 => k_is); (case k2 => k_is); (case a3 => k_is); (case l3 => k_is); (case c3 => k_is); (case k3 => k_is); (case a4 => k_is); (case l4 => k_is); (case c4 => k_is); (case k4 => k_is); (case a5 => k_is); (case l5 => k_is); (case c5 => k_is); (case k5 => k_is); (case a6 => k_is); (case l6 => k_is); (case c6 => k_is); (case k6 => k_is); (case a7 => k_is); (case l7 => k_is); (case c7 => k_is); (case k7 => k_is); (case a8 => k_is); (case l8 => k_is); (case c8 => k_is); (case k8 => k_is); (case a9 => k_is); (case l9 => k_is); (case c9 => k_is); (case k9 => k_is); (case a10 => k_is); (case l10 => k_is); (case c10 => k_is); (case k10 => k_is); (case a11 => k_is); (case l11 => k_is); (case c11 => k_is); (case k11 => k_is); (case a12 => k_is); (case l12 => k_is); (case c12 => k_is); (case k12 => k_is); (case a13 => k_is); (case l13 => k_is); (case c13 => k_is); (case k13 => k_is); (case a14 => k_is); (case l14 => k_is); (case c14 => k_is); (case k14 => k_is); (case a15 => k_is); (case l15 => k_is); (case c15 => k_is); (case k15 => k_is); (case a16 => k_is); (case l16 => k_is); (case c16 => k_is); (case k16 => k_is); (case a17 => k_is); (case l17 => k_is); (case c17 => k_is); (case k17 => k_is); (case a18 => k_is); (case l18 => k_is); (case c18 => k_is); (case k18 => k_is); (case z0 => k_is); (case z1 => k_is); (case z2 => k_is); (case z3 => k_is); (case z4 => k_is); (case z5 => k_is); (case z6 => k_is); (case z7 => k_is); (case z8 => k_is); (case z9 => k_is); (case z10 => k_is); (case z11 => k_is); (case z12 => k_is)
