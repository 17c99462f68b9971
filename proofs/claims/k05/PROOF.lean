import PyProof.Rows.All
import Wide.All
import OpenK.AllK
import Wide.FinOn
import HandS.ForMost
import HandS.ForExc
import HandS.Wide
import HandS.IsInst
import HandS.Evl
import HandS.Defaults
import HandS.TupAny
import HandS.Zip
import HandS.Style
import HandS.ExcInit
import HandS.ExcField
import KE.KExcInit
import HandS.CallSlots
import HandS.ExcIs
import KE.KExcLine
import KE.KUnpackStar
import HandS.SortKw
import KE.KDictKeyed
import KE.KDictWalk
import HandS.DictComp
import KE.SortData
import KE.KDictSum
import HandS.Conv
import PyProof.Transfer
import HandS.Deep
import KE.GoesEnum
import KE.KExcIs
import KE.KIsAll
import KE.KUnpack
import HandS.IterVal
import HandS.TupSets
import HandS.More
import HandS.Text
import HandS.FStr
import PyProof.Rows.RegReprOcc
import PyProof.Rows.StrFirst
import PySem.Challenge.RW_umbrage_k05_fractions_written_and_read
def Qt (p : Prop) : Prop := p
theorem qt_eq (p : Prop) (h : p) : Qt p = True := eq_true h
theorem qt_of {p : Prop} (h : Qt p) : p := h
set_option Elab.async false
set_option linter.all false
set_option maxRecDepth 100000
set_option maxHeartbeats 4000000
namespace U
open PySem PySem.W PyProof.Rows
set_option maxHeartbeats 0 in
open_top head_top for PySem.Challenge.rw_umbrage_k05_fractions_written_and_read
end U
section
/-! The data layer: slots hold data, lists of one's own, or the bag of draws; readings evaluate to data. -/
namespace U
open PySem L2 Evl
noncomputable abbrev Fg := PySem.W.Frag
noncomputable abbrev Hp := L2.Hp
noncomputable abbrev St := L2.St
open Classical in
noncomputable def less (H : Hp) (Z : Addr → Prop) : Hp := fun a => if Z a then none else H a
theorem less_no {H : Hp} {Z : Addr → Prop} {a : Addr} (h : ¬ Z a) : less H Z a = H a := if_neg h
theorem less_yes {H : Hp} {Z : Addr → Prop} {a : Addr} (h : Z a) : less H Z a = none := if_pos h
theorem less_some {H : Hp} {Z : Addr → Prop} {a : Addr} {o : HO} (h : less H Z a = some o) : ¬ Z a ∧ H a = some o := by
  by_cases z : Z a
  · rw [less_yes z] at h; cases h
  · rw [less_no z] at h; exact ⟨z, h⟩
theorem less_of {H : Hp} {Z : Addr → Prop} {a : Addr} {o : HO} (z : ¬ Z a) (h : H a = some o) : less H Z a = some o := (less_no z).trans h
theorem less_ex {H : Hp} {Z : Addr → Prop} : Ex (less H Z) H := fun _ _ h => (less_some h).2
theorem less_mono {H H' : Hp} {Z : Addr → Prop} (e : Ex H H') : Ex (less H Z) (less H' Z) := fun a o h => less_of (less_some h).1 (e a o (less_some h).2)
theorem less_sub {H : Hp} {Z Z' : Addr → Prop} (e : ∀ a, Z' a → Z a) : Ex (less H Z) (less H Z') := fun a o h => less_of (fun z => (less_some h).1 (e a z)) (less_some h).2
theorem less_but {H H' : Hp} {Z : Addr → Prop} (e : ∀ a o, H a = some o → ¬ Z a → H' a = some o) : Ex (less H Z) (less H' Z) := fun a o h => less_of (less_some h).1 (e a o (less_some h).2 (less_some h).1)

mutual
theorem dp_mono {K : Fg} {H H' : Hp} (e : Ex H H') : ∀ {d : PyData} {v : V}, Dp K H v d → Dp K H' v d
  | _, _, .non => .non
  | _, _, .bl b => .bl b
  | _, _, .int i => .int i
  | _, _, .str x => .str x
  | _, _, .lst h t => .lst (ex_l e h) (dpa_mono e t)
  | _, _, .tup h t => .tup (ex_t e h) (dpa_mono e t)
theorem dpa_mono {K : Fg} {H H' : Hp} (e : Ex H H') : ∀ {ds : List PyData} {vs : List V}, DpAll K H vs ds → DpAll K H' vs ds
  | _, _, .nil => .nil
  | _, _, .cons h t => .cons (dp_mono e h) (dpa_mono e t)
end
theorem dpa_len {K : Fg} {H : Hp} : ∀ {ds : List PyData} {vs : List V}, DpAll K H vs ds → vs.length = ds.length
  | _, _, .nil => rfl
  | _, _, .cons _ t => congrArg (· + 1) (dpa_len t)
theorem dpa_get {K : Fg} {H : Hp} : ∀ {ds : List PyData} {vs : List V} {i : Nat} {d : PyData}, DpAll K H vs ds → ds[i]? = some d → ∃ v, vs[i]? = some v ∧ Dp K H v d
  | _, _, _, _, .nil, e => by simp at e
  | _, _, 0, _, .cons h _, e => by
    have e := Option.some.inj e
    subst e
    exact ⟨_, rfl, h⟩
  | _, _, i + 1, _, .cons _ t, e => dpa_get (i := i) t e
theorem dpa_app {K : Fg} {H : Hp} : ∀ {ds es : List PyData} {vs us : List V}, DpAll K H vs ds → DpAll K H us es → DpAll K H (vs ++ us) (ds ++ es)
  | _, _, _, _, .nil, h => h
  | _, _, _, _, .cons h t, u => .cons h (dpa_app t u)

/-- the bag of draws: its cells, how often it was drawn, its number -/
structure Bag where
  cs : List Int
  i : Int
  j : Int
noncomputable def Bag.ok (s : Bag) : Prop := s.cs.length ≤ 63 ∧ 0 ≤ s.j ∧ s.j < 2147483647
noncomputable def BagAt (H : Hp) (B : Option (Addr × Addr)) (s : Bag) : Prop := match B with
  | some (b, c) => H b = some (.lst [.ref c, .int s.i, .int s.j]) ∧ H c = some (.lst (s.cs.map V.int)) ∧ s.ok
  | none => True
noncomputable def InB (B : Option (Addr × Addr)) (a : Addr) : Prop := ∃ b c, B = some (b, c) ∧ (a = b ∨ a = c)
inductive En where
  | un
  | d (x : PyData)
  | own (xs : List PyData)
  | bag
noncomputable abbrev Gam := List En
noncomputable def Zs (W : Addr → Prop) (B : Option (Addr × Addr)) (ad : Nat → Addr) (G : Gam) : Addr → Prop := fun a => W a ∨ (∃ i xs, G[i]? = some (.own xs) ∧ a = ad i) ∨ InB B a
noncomputable def Slot (K : Fg) (B : Option (Addr × Addr)) (ad : Nat → Addr) (H : Hp) (Z : Addr → Prop) (i : Nat) (o : Option V) : En → Prop
  | .un => True
  | .d x => ∃ v, o = some v ∧ Dp K (less H Z) v x
  | .own xs => o = some (.ref (ad i)) ∧ ∃ vs, H (ad i) = some (.lst vs) ∧ DpAll K (less H Z) vs xs
  | .bag => ∃ b c, B = some (b, c) ∧ o = some (.ref b)
/-- the state of a def's frame: slots, heap, bag, against the heap H0 at its entry -/
structure Sta (K : Fg) (W : Addr → Prop) (B : Option (Addr × Addr)) (ad : Nat → Addr) (H0 H : Hp) (σ : St) (G : Gam) (s : Bag) : Prop where
  len : σ.length = G.length
  at_ : ∀ i e, G[i]? = some e → ∃ o, σ[i]? = some o ∧ Slot K B ad H (Zs W B ad G) i o e
  inj : ∀ i j xs ys, G[i]? = some (.own xs) → G[j]? = some (.own ys) → ad i = ad j → i = j
  sep : ∀ i xs, G[i]? = some (.own xs) → H0 (ad i) = none ∧ ¬ InB B (ad i) ∧ ¬ W (ad i)
  base : ∀ a o, H0 a = some o → ¬ InB B a → H a = some o
  bag : BagAt H B s
  wd : ∀ a, W a → ∃ o, H a = some o
section
variable {K : Fg} {W : Addr → Prop} {B : Option (Addr × Addr)} {ad : Nat → Addr} {H0 H H2 : Hp} {σ : St} {G G' : Gam} {s s' : Bag}
theorem Slot.mono {Z Z' : Addr → Prop} {i : Nat} {o : Option V} {e : En} (h : Slot K B ad H Z i o e) (x : Ex (less H Z) (less H2 Z')) (y : ∀ xs vs, e = .own xs → H (ad i) = some (.lst vs) → H2 (ad i) = some (.lst vs)) : Slot K B ad H2 Z' i o e := by
  cases e with
  | un => trivial
  | d d => obtain ⟨v, e, h⟩ := h; exact ⟨v, e, dp_mono x h⟩
  | own xs => obtain ⟨e, vs, h1, h2⟩ := h; exact ⟨e, vs, y xs vs rfl h1, dpa_mono x h2⟩
  | bag => exact h
theorem upd_there {H : Hp} {p a : Addr} {o u : HO} (h : H a = some o) : ∃ o', upd H p u a = some o' := by
  by_cases z : a = p
  · exact ⟨u, by rw [z]; exact upd_same⟩
  · exact ⟨o, by rw [upd_ne z]; exact h⟩
/-- everything stays -/
theorem Sta.ext (S : Sta K W B ad H0 H σ G s) (e : Ex H H2) : Sta K W B ad H0 H2 σ G s where
  len := S.len
  at_ := fun i en h => by
    obtain ⟨o, h1, h2⟩ := S.at_ i en h
    exact ⟨o, h1, h2.mono (less_mono e) fun _ _ _ q => e _ _ q⟩
  inj := S.inj
  sep := S.sep
  base := fun a o h n => e _ _ (S.base a o h n)
  bag := by
    have h := S.bag
    unfold BagAt at h ⊢
    split
    · exact ⟨e _ _ h.1, e _ _ h.2.1, h.2.2⟩
    · trivial
  wd := fun a z => by
    obtain ⟨o, h⟩ := S.wd a z
    exact ⟨o, e _ _ h⟩
/-- all but the bag stays -/
theorem Sta.drawn (S : Sta K W B ad H0 H σ G s) (e : ∀ a o, H a = some o → ¬ InB B a → H2 a = some o) (b : BagAt H2 B s') : Sta K W B ad H0 H2 σ G s' where
  len := S.len
  at_ := fun i en h => by
    obtain ⟨o, h1, h2⟩ := S.at_ i en h
    refine ⟨o, h1, h2.mono (less_but fun a o q z => e a o q fun y => z (.inr (.inr y))) fun xs vs q q2 => ?_⟩
    subst q
    exact e _ _ q2 (S.sep i xs h).2.1
  inj := S.inj
  sep := S.sep
  base := fun a o h n => e a o (S.base a o h n) n
  bag := b
  wd := fun a z => by
    by_cases hb : InB B a
    · obtain ⟨b1, c1, rfl, hb⟩ := hb
      rcases hb with rfl | rfl
      · exact ⟨_, b.1⟩
      · exact ⟨_, b.2.1⟩
    · obtain ⟨o, h⟩ := S.wd a z
      exact ⟨o, e _ _ h hb⟩
theorem Zs.set_of {i : Nat} {e : En} (he : ∀ xs, e ≠ .own xs) {a : Addr} (h : Zs W B ad (G.set i e) a) : Zs W B ad G a := qt_of (by simp (disch := with_unfolding_all
  rcases h with h | ⟨j, xs, h, r⟩ | h
  · exact .inl h
  · by_cases z : i = j
    · subst z
      by_cases l : i < G.length
      · rw [List.getElem?_set_self l] at h
        exact absurd (Option.some.inj h) (he xs)
      · rw [List.getElem?_eq_none (by rw [List.length_set]; omega)] at h; cases h
    · rw [List.getElem?_set_ne z] at h
      exact .inr (.inl ⟨j, xs, h, r⟩)
  · exact .inr (.inr h)
  ) only [↓qt_eq])
theorem get_set {α : Type} {l : List α} {i j : Nat} {x y : α} (h : (l.set i x)[j]? = some y) : (i = j ∧ i < l.length ∧ x = y) ∨ (i ≠ j ∧ l[j]? = some y) := qt_of (by simp (disch := with_unfolding_all
  by_cases z : i = j
  · subst z
    by_cases q : i < l.length
    · rw [List.getElem?_set_self q] at h
      exact .inl ⟨rfl, q, Option.some.inj h⟩
    · rw [List.getElem?_eq_none (by rw [List.length_set]; omega)] at h; cases h
  · rw [List.getElem?_set_ne z] at h
    exact .inr ⟨z, h⟩
  ) only [↓qt_eq])
/-- a slot gets a thing that is no list of one's own -/
theorem Sta.set (S : Sta K W B ad H0 H σ G s) {i : Nat} {e : En} {o : Option V} (he : ∀ xs, e ≠ .own xs) (h : Slot K B ad H (Zs W B ad G) i o e) : Sta K W B ad H0 H (σ.set i o) (G.set i e) s where
  len := by rw [List.length_set, List.length_set]; exact S.len
  at_ := fun j en g => by
    rcases get_set g with ⟨rfl, l, rfl⟩ | ⟨z, g⟩
    · refine ⟨o, List.getElem?_set_self (by rw [S.len]; exact l), h.mono (less_sub fun a q => Zs.set_of he q) fun _ _ _ q => q⟩
    · obtain ⟨o', h1, h2⟩ := S.at_ j en g
      exact ⟨o', by rw [List.getElem?_set_ne z]; exact h1, h2.mono (less_sub fun a q => Zs.set_of he q) fun _ _ _ q => q⟩
  inj := fun j k xs ys g g' q => by
    rcases get_set g with ⟨rfl, l, e⟩ | ⟨z, g⟩
    · exact absurd e (he xs)
    · rcases get_set g' with ⟨rfl, l, e⟩ | ⟨z', g'⟩
      · exact absurd e (he ys)
      · exact S.inj j k xs ys g g' q
  sep := fun j xs g => by
    rcases get_set g with ⟨rfl, l, e⟩ | ⟨z, g⟩
    · exact absurd e (he xs)
    · exact S.sep j xs g
  base := S.base
  bag := S.bag
  wd := S.wd
theorem Sta.setD (S : Sta K W B ad H0 H σ G s) {i : Nat} {v : V} {x : PyData} (h : Dp K (less H (Zs W B ad G)) v x) : Sta K W B ad H0 H (σ.set i (some v)) (G.set i (.d x)) s :=
  S.set (fun _ z => by cases z) ⟨v, rfl, h⟩
theorem Sta.fresh (S : Sta K W B ad H0 H σ G s) {p : Addr} (h : H p = none) : H0 p = none ∧ ¬ InB B p := qt_of (by simp (disch := with_unfolding_all
  have hB : ¬ InB B p := by
    rintro ⟨b, c, rfl, z⟩
    have q := S.bag
    unfold BagAt at q
    rcases z with rfl | rfl
    · rw [q.1] at h; cases h
    · rw [q.2.1] at h; cases h
  refine ⟨?_, hB⟩
  cases e : H0 p with
  | none => rfl
  | some o => rw [S.base p o e hB] at h; cases h
  ) only [↓qt_eq])
/-- a thing of another's, which is new to this def, is changed -/
theorem Sta.foreign (S : Sta K W B ad H0 H σ G s) {p : Addr} {o : HO} (hw : W p) (h0 : H0 p = none) (hB : ¬ InB B p) : Sta K W B ad H0 (upd H p o) σ G s ∧ less (upd H p o) (Zs W B ad G) = less H (Zs W B ad G) := qt_of (by simp (disch := with_unfolding_all
  have el : less (upd H p o) (Zs W B ad G) = less H (Zs W B ad G) := by
    funext a
    by_cases z : Zs W B ad G a
    · rw [less_yes z, less_yes z]
    · rw [less_no z, less_no z, upd_ne (fun e => z (.inl (by rw [e]; exact hw)))]
  refine ⟨⟨S.len, fun i e h => ?_, S.inj, S.sep, fun a u q n => ?_, ?_, fun a z => (S.wd a z).elim fun o q => upd_there q⟩, el⟩
  · obtain ⟨u, g1, g2⟩ := S.at_ i e h
    refine ⟨u, g1, g2.mono (by rw [el]; exact Ex.refl _) fun xs vs q q2 => ?_⟩
    subst q
    rw [upd_ne (fun z => (S.sep i xs h).2.2 (by rw [z]; exact hw))]; exact q2
  · rw [upd_ne (fun z => by rw [z, h0] at q; cases q)]; exact S.base a u q n
  · have hg := S.bag
    rcases B with _ | ⟨b, c⟩
    · trivial
    · have h : H b = _ ∧ _ := hg
      refine ⟨?_, ?_, h.2.2⟩
      · rw [upd_ne (fun z => hB ⟨b, c, rfl, .inl z.symm⟩)]; exact h.1
      · rw [upd_ne (fun z => hB ⟨b, c, rfl, .inr z.symm⟩)]; exact h.2.1
  ) only [↓qt_eq])
/-- a new thing is for a while another's -/
theorem Sta.lend (S : Sta K W B ad H0 H σ G s) {p : Addr} {o : HO} (hp : H p = none) : Sta K (fun a => W a ∨ a = p) B ad H0 (upd H p o) σ G s ∧ less (upd H p o) (Zs (fun a => W a ∨ a = p) B ad G) = less H (Zs W B ad G) := qt_of (by simp (disch := with_unfolding_all
  have np : ¬ Zs W B ad G p := by
    rintro (z | ⟨i, xs, g, r⟩ | z)
    · obtain ⟨o, z⟩ := S.wd _ z
      rw [hp] at z; cases z
    · obtain ⟨_, _, _, vs, h1, _⟩ := S.at_ i _ g
      rw [← r, hp] at h1; cases h1
    · obtain ⟨b, c, rfl, z⟩ := z
      rcases z with rfl | rfl
      · rw [S.bag.1] at hp; cases hp
      · rw [S.bag.2.1] at hp; cases hp
  have zz : ∀ a, Zs (fun a => W a ∨ a = p) B ad G a ↔ Zs W B ad G a ∨ a = p := fun a => by
    constructor
    · rintro ((z | z) | z | z)
      · exact .inl (.inl z)
      · exact .inr z
      · exact .inl (.inr (.inl z))
      · exact .inl (.inr (.inr z))
    · rintro ((z | z | z) | z)
      · exact .inl (.inl z)
      · exact .inr (.inl z)
      · exact .inr (.inr z)
      · exact .inl (.inr z)
  have el : less (upd H p o) (Zs (fun a => W a ∨ a = p) B ad G) = less H (Zs W B ad G) := by
    funext a
    by_cases e : a = p
    · rw [less_yes ((zz a).mpr (.inr e)), e, less_no np, hp]
    · by_cases z : Zs W B ad G a
      · rw [less_yes z, less_yes ((zz a).mpr (.inl z))]
      · rw [less_no z, less_no (fun y => ((zz a).mp y).elim z e), upd_ne e]
  have ex : Ex H (upd H p o) := Ex.new hp
  have S' := S.ext ex
  refine ⟨⟨S.len, fun i e h => ?_, S.inj, fun i xs h => ⟨(S.sep i xs h).1, (S.sep i xs h).2.1, fun z => z.elim (S.sep i xs h).2.2 fun z => np (by rw [← z]; exact .inr (.inl ⟨i, xs, h, rfl⟩))⟩, S'.base, S'.bag, fun a z => z.elim (fun z => S'.wd a z) fun z => ⟨o, by rw [z]; exact upd_same⟩⟩, el⟩
  obtain ⟨u, g1, g2⟩ := S.at_ i e h
  exact ⟨u, g1, g2.mono (by rw [el]; exact Ex.refl _) fun xs vs q q2 => ex _ _ q2⟩
  ) only [↓qt_eq])
/-- .. and is given back -/
theorem Sta.back {p : Addr} (S : Sta K (fun a => W a ∨ a = p) B ad H0 H σ G s) : Sta K W B ad H0 H σ G s ∧ Ex (less H (Zs (fun a => W a ∨ a = p) B ad G)) (less H (Zs W B ad G)) := qt_of (by simp (disch := with_unfolding_all
  have ex : Ex (less H (Zs (fun a => W a ∨ a = p) B ad G)) (less H (Zs W B ad G)) := less_sub fun a z => z.elim (fun z => .inl (.inl z)) .inr
  refine ⟨⟨S.len, fun i e h => ?_, S.inj, fun i xs h => ⟨(S.sep i xs h).1, (S.sep i xs h).2.1, fun z => (S.sep i xs h).2.2 (.inl z)⟩, S.base, S.bag, fun a z => S.wd a (.inl z)⟩, ex⟩
  obtain ⟨u, g1, g2⟩ := S.at_ i e h
  exact ⟨u, g1, g2.mono ex fun _ _ _ q => q⟩
  ) only [↓qt_eq])
end
end U

end
section
namespace U
open PySem L2 Evl
/-- all but the bag stays -/
noncomputable def Xb (B : Option (Addr × Addr)) (H H2 : Hp) : Prop := ∀ a o, H a = some o → ¬ InB B a → H2 a = some o
theorem Xb.refl {B : Option (Addr × Addr)} {H : Hp} : Xb B H H := fun _ _ h _ => h
theorem Xb.trans {B : Option (Addr × Addr)} {H H1 H2 : Hp} (a : Xb B H H1) (b : Xb B H1 H2) : Xb B H H2 := fun p o h n => b p o (a p o h n) n
theorem Xb.l {B : Option (Addr × Addr)} {H H2 : Hp} (a : Xb B H H2) {W : Addr → Prop} {ad : Nat → Addr} {G : Gam} : Ex (less H (Zs W B ad G)) (less H2 (Zs W B ad G)) := less_but fun p o h n => a p o h fun z => n (.inr (.inr z))
theorem Xb.of {B : Option (Addr × Addr)} {H H2 : Hp} (e : Ex H H2) : Xb B H H2 := fun p o h _ => e p o h
/-! ### what a reading evaluates to -/
noncomputable def EvG (K : Fg) (te : TE) (G : Gam) (s : Bag) (x : PyData) (s' : Bag) : Prop :=
  ∀ W B ad H0 H σ, Sta K W B ad H0 H σ G s → ∀ Q : VK, (∀ v H2, Sta K W B ad H0 H2 σ G s' → Xb B H H2 → Dp K (less H2 (Zs W B ad G)) v x → Q v H2) → te σ H Q
noncomputable def EvT (K : Fg) (tt : TT) (G : Gam) (s : Bag) (b : Bool) (s' : Bag) : Prop :=
  ∀ W B ad H0 H σ, Sta K W B ad H0 H σ G s → ∀ Q : Bool → Hp → Prop, (∀ H2, Sta K W B ad H0 H2 σ G s' → Xb B H H2 → Q b H2) → tt σ H Q
noncomputable def EvA (K : Fg) (ta : TA) (G : Gam) (s : Bag) (xs : List PyData) (s' : Bag) : Prop :=
  ∀ W B ad H0 H σ, Sta K W B ad H0 H σ G s → ∀ Q : List V → Hp → Prop, (∀ vs H2, Sta K W B ad H0 H2 σ G s' → Xb B H H2 → DpAll K (less H2 (Zs W B ad G)) vs xs → Q vs H2) → ta σ H Q
/-- a new list as a value of its own (not yet data) is not spoken of: lists are data once made -/
inductive Out where
  | nx (G : Gam) (s : Bag)
  | rt (x : PyData) (s : Bag)
  | bk (G : Gam) (s : Bag)
  | ct (G : Gam) (s : Bag)
noncomputable def Post (K : Fg) (W : Addr → Prop) (B : Option (Addr × Addr)) (H0 M : Hp) (D : Ends) : Out → Prop
  | .nx G s => ∀ ad H σ, Sta K W B ad H0 H σ G s → Ex M (less H (Zs W B ad G)) → D.nx σ H
  | .rt x s => ∀ v H, (∀ a o, H0 a = some o → ¬ InB B a → H a = some o) → BagAt H B s → Dp K (less H fun a => W a ∨ InB B a) v x → D.rt v H
  | .bk G s => ∀ ad H σ, Sta K W B ad H0 H σ G s → Ex M (less H (Zs W B ad G)) → D.bk σ H
  | .ct G s => ∀ ad H σ, Sta K W B ad H0 H σ G s → Ex M (less H (Zs W B ad G)) → D.ct σ H
noncomputable def SG (K : Fg) (ts : TS) (G : Gam) (s : Bag) (o : Out) : Prop :=
  ∀ W B ad H0 H σ (D : Ends), Sta K W B ad H0 H σ G s → Post K W B H0 (less H (Zs W B ad G)) D o → ts D σ H

section
variable {K : Fg} {G G1 G2 : Gam} {s s1 s2 s3 s' : Bag} {ta tb tc te : TE} {t u : TT} {x y z : PyData}
/-! ### values -/
theorem ev_is {x'} (h : EvG K te G s x s') (e : x = x') : EvG K te G s x' s' := e ▸ h
theorem et_is {b b' : Bool} (h : EvT K t G s b s') (e : b = b') : EvT K t G s b' s' := e ▸ h
theorem ev_var {i : Nat} (h : G[i]? = some (.d x)) : EvG K (tVar i) G s x s := fun W B ad H0 H σ S Q q => by
  obtain ⟨o, h1, v, rfl, h2⟩ := S.at_ i _ h
  exact ⟨v, h1, q v H S (Xb.refl) h2⟩
theorem ev_int {i : Int} : EvG K (tC (.int i)) G s (.int i) s := fun W B ad H0 H σ S Q q => q _ H S (Xb.refl) (.int i)
/-! ### argument lists and displays -/
theorem ea_nil : EvA K tNil G s [] s := fun W B ad H0 H σ S Q q => q _ H S (Xb.refl) .nil
theorem ea_cons {tr : TA} {xs : List PyData} (h : EvG K ta G s x s1) (hr : EvA K tr G s1 xs s2) : EvA K (tCons ta tr) G s (x :: xs) s2 := fun W B ad H0 H σ S Q q =>
  h W B ad H0 H σ S _ fun v H1 S1 e1 d1 => hr W B ad H0 H1 σ S1 _ fun vs H2 S2 e2 d2 => q _ H2 S2 (e1.trans e2) (.cons (dp_mono e2.l d1) d2)
theorem new_ex {W : Addr → Prop} {B : Option (Addr × Addr)} {ad : Nat → Addr} {H0 H : Hp} {σ : St} (S : Sta K W B ad H0 H σ G s) {p : Addr} {o : HO} (h : H p = none) :
    Sta K W B ad H0 (upd H p o) σ G s ∧ Xb B H (upd H p o) ∧ less (upd H p o) (Zs W B ad G) p = some o := qt_of (by simp (disch := with_unfolding_all
  have e : Ex H (upd H p o) := Ex.new h
  refine ⟨S.ext e, .of e, less_of ?_ upd_same⟩
  rintro (z | ⟨i, xs, g, r⟩ | z)
  · obtain ⟨o, z⟩ := S.wd _ z
    rw [h] at z; cases z
  · obtain ⟨_, _, _, vs, h1, _⟩ := S.at_ i _ g
    rw [← r, h] at h1; cases h1
  · exact (S.fresh h).2 z
  ) only [↓qt_eq])
theorem sz_line {n : Nat} (h : n ≤ 16000000) : n ≤ sizeLine := Nat.le_trans h (by decide)
theorem ev_tup {ta : TA} {xs : List PyData} (h : EvA K ta G s xs s') (hl : xs.length ≤ 16000000) : EvG K (tTup ta) G s (.tuple xs) s' := fun W B ad H0 H σ S Q q =>
  h W B ad H0 H σ S _ fun vs H1 S1 e1 d1 => ⟨by rw [dpa_len d1]; exact sz_line hl, fun p hp => by
    obtain ⟨S2, e2, g⟩ := new_ex (o := .tup vs) S1 hp
    exact q _ _ S2 (e1.trans e2) (.tup (st_of g) (dpa_mono e2.l d1))⟩
theorem ev_lst {ta : TA} {xs : List PyData} (h : EvA K ta G s xs s') (hl : xs.length ≤ 16000000) : EvG K (tLst ta) G s (.list xs) s' := fun W B ad H0 H σ S Q q =>
  h W B ad H0 H σ S _ fun vs H1 S1 e1 d1 => ⟨by rw [dpa_len d1]; exact sz_line hl, fun p hp => by
    obtain ⟨S2, e2, g⟩ := new_ex (o := .lst vs) S1 hp
    exact q _ _ S2 (e1.trans e2) (.lst (sq_of g) (dpa_mono e2.l d1))⟩
/-! ### operators -/
theorem ev_I0 {g : Int → Int → V} {f : Int → Int → PyData} {i j : Int} (ha : EvG K ta G s (.int i) s1) (hb : EvG K tb G s1 (.int j) s2) (hg : ∀ H, Dp K H (g i j) (f i j)) : EvG K (tOp (rI0 g) ta tb) G s (f i j) s2 := fun W B ad H0 H σ S Q q =>
  ha W B ad H0 H σ S _ fun v H1 S1 e1 d1 => hb W B ad H0 H1 σ S1 _ fun w H2 S2 e2 d2 => by
    cases d1; cases d2
    exact ⟨i, j, rfl, rfl, q _ H2 S2 (e1.trans e2) (hg _)⟩
theorem ev_I {C : Int → Int → Prop} {g : Int → Int → V} {f : Int → Int → PyData} {i j : Int} (ha : EvG K ta G s (.int i) s1) (hb : EvG K tb G s1 (.int j) s2) (hc : C i j) (hg : ∀ H, Dp K H (g i j) (f i j)) : EvG K (tOp (rI C g) ta tb) G s (f i j) s2 := fun W B ad H0 H σ S Q q =>
  ha W B ad H0 H σ S _ fun v H1 S1 e1 d1 => hb W B ad H0 H1 σ S1 _ fun w H2 S2 e2 d2 => by
    cases d1; cases d2
    exact ⟨i, j, rfl, rfl, hc, q _ H2 S2 (e1.trans e2) (hg _)⟩
theorem ev_add {i j : Int} (ha : EvG K ta G s (.int i) s1) (hb : EvG K tb G s1 (.int j) s2) : EvG K (tOp (rI0 fun i j => .int (i + j)) ta tb) G s (.int (i + j)) s2 := ev_I0 (f := fun i j => .int (i + j)) ha hb fun _ => .int _
theorem ev_sub {i j : Int} (ha : EvG K ta G s (.int i) s1) (hb : EvG K tb G s1 (.int j) s2) : EvG K (tOp (rI0 fun i j => .int (i - j)) ta tb) G s (.int (i - j)) s2 := ev_I0 (f := fun i j => .int (i - j)) ha hb fun _ => .int _
/-- // by any divisor but 0, of less than 9000 bits -/
noncomputable def CDvX (_ j : Int) : Prop := j ≠ 0 ∧ j.natAbs.log2 < 9000
theorem op_fdivX {X : Cx} : OpR X (binaryOp .FloorDiv) (rI CDvX fun i j => .int (i.fdiv j)) := opI fun i j _ _ _ _ _ hc q => PyProof.Rows.floordiv_int hc.1 q (.inl (PyProof.noPylong_of_log2 hc.2))
theorem ev_fdiv {i j : Int} (ha : EvG K ta G s (.int i) s1) (hb : EvG K tb G s1 (.int j) s2) (hc : CDvX i j) : EvG K (tOp (rI CDvX fun i j => .int (i.fdiv j)) ta tb) G s (.int (i.fdiv j)) s2 := ev_I (f := fun i j => .int (i.fdiv j)) ha hb hc fun _ => .int _
noncomputable def CNz (_ j : Int) : Prop := j ≠ 0
theorem op_modX {X : Cx} : OpR X (binaryOp .Mod) (rI CNz fun i j => .int (i.fmod j)) := op_modN
theorem ev_mod {i j : Int} (ha : EvG K ta G s (.int i) s1) (hb : EvG K tb G s1 (.int j) s2) (hc : CNz i j) : EvG K (tOp (rI CNz fun i j => .int (i.fmod j)) ta tb) G s (.int (i.fmod j)) s2 := ev_I (f := fun i j => .int (i.fmod j)) ha hb hc fun _ => .int _
theorem ev_pow {i j : Int} (ha : EvG K ta G s (.int i) s1) (hb : EvG K tb G s1 (.int j) s2) (hc : CPow i j) : EvG K (tOp (rI CPow fun i j => .int (i ^ j.toNat)) ta tb) G s (.int (i ^ j.toNat)) s2 := ev_I (f := fun i j => .int (i ^ j.toNat)) ha hb hc fun _ => .int _
theorem ev_lt {i j : Int} (ha : EvG K ta G s (.int i) s1) (hb : EvG K tb G s1 (.int j) s2) : EvG K (tOp (rI0 fun i j => .bl (decide (i < j))) ta tb) G s (.bool (decide (i < j))) s2 := ev_I0 (f := fun i j => .bool (decide (i < j))) ha hb fun _ => .bl _
theorem ev_gt {i j : Int} (ha : EvG K ta G s (.int i) s1) (hb : EvG K tb G s1 (.int j) s2) : EvG K (tOp (rI0 fun i j => .bl (decide (j < i))) ta tb) G s (.bool (decide (j < i))) s2 := ev_I0 (f := fun i j => .bool (decide (j < i))) ha hb fun _ => .bl _
theorem ev_eqI {i j : Int} (ha : EvG K ta G s (.int i) s1) (hb : EvG K tb G s1 (.int j) s2) : EvG K (tOp rEq ta tb) G s (.bool (decide (i = j))) s2 := fun W B ad H0 H σ S Q q =>
  ha W B ad H0 H σ S _ fun v H1 S1 e1 d1 => hb W B ad H0 H1 σ S1 _ fun w H2 S2 e2 d2 => by
    cases d1; cases d2
    have e : decide (V.int i = V.int j) = decide (i = j) := by simp
    exact ⟨rfl, by rw [e]; exact q _ H2 S2 (e1.trans e2) (.bl _)⟩
theorem ev_neI {i j : Int} (ha : EvG K ta G s (.int i) s1) (hb : EvG K tb G s1 (.int j) s2) : EvG K (tOp rNe ta tb) G s (.bool (!decide (i = j))) s2 := fun W B ad H0 H σ S Q q =>
  ha W B ad H0 H σ S _ fun v H1 S1 e1 d1 => hb W B ad H0 H1 σ S1 _ fun w H2 S2 e2 d2 => by
    cases d1; cases d2
    have e : decide (V.int i = V.int j) = decide (i = j) := by simp
    exact ⟨rfl, by rw [e]; exact q _ H2 S2 (e1.trans e2) (.bl _)⟩
theorem ev_eqS {i j : Str} (ha : EvG K ta G s (.str i) s1) (hb : EvG K tb G s1 (.str j) s2) : EvG K (tOp rEq ta tb) G s (.bool (decide (i = j))) s2 := fun W B ad H0 H σ S Q q =>
  ha W B ad H0 H σ S _ fun v H1 S1 e1 d1 => hb W B ad H0 H1 σ S1 _ fun w H2 S2 e2 d2 => by
    cases d1; cases d2
    have e : decide (V.str i = V.str j) = decide (i = j) := by simp
    exact ⟨rfl, by rw [e]; exact q _ H2 S2 (e1.trans e2) (.bl _)⟩
theorem ev_eqB {i j : Bool} (ha : EvG K ta G s (.bool i) s1) (hb : EvG K tb G s1 (.bool j) s2) : EvG K (tOp rEq ta tb) G s (.bool (decide (i = j))) s2 := fun W B ad H0 H σ S Q q =>
  ha W B ad H0 H σ S _ fun v H1 S1 e1 d1 => hb W B ad H0 H1 σ S1 _ fun w H2 S2 e2 d2 => by
    cases d1; cases d2
    have e : decide (V.bl i = V.bl j) = decide (i = j) := by simp
    exact ⟨rfl, by rw [e]; exact q _ H2 S2 (e1.trans e2) (.bl _)⟩
theorem ev_neB {i j : Bool} (ha : EvG K ta G s (.bool i) s1) (hb : EvG K tb G s1 (.bool j) s2) : EvG K (tOp rNe ta tb) G s (.bool (!decide (i = j))) s2 := fun W B ad H0 H σ S Q q =>
  ha W B ad H0 H σ S _ fun v H1 S1 e1 d1 => hb W B ad H0 H1 σ S1 _ fun w H2 S2 e2 d2 => by
    cases d1; cases d2
    have e : decide (V.bl i = V.bl j) = decide (i = j) := by simp
    exact ⟨rfl, by rw [e]; exact q _ H2 S2 (e1.trans e2) (.bl _)⟩
theorem ev_neg {i : Int} (ha : EvG K ta G s (.int i) s') : EvG K (tUn (rU fun i => .int (-i)) ta) G s (.int (-i)) s' := fun W B ad H0 H σ S Q q =>
  ha W B ad H0 H σ S _ fun v H1 S1 e1 d1 => by
    cases d1
    exact ⟨i, rfl, q _ H1 S1 e1 (.int _)⟩
noncomputable def isNoneD : PyData → Bool
  | .none => true
  | _ => false
theorem dp_none {K : Fg} {H : Hp} {v : V} {x : PyData} (h : Dp K H v x) : decide (v = V.non) = isNoneD x := by
  cases h <;> simp [isNoneD]
theorem ev_isN (ha : EvG K ta G s x s') : EvG K (tOp (fun x y H Q => y = .non ∧ Q (.bl (decide (x = .non))) H) ta (tC .non)) G s (.bool (isNoneD x)) s' := fun W B ad H0 H σ S Q q =>
  ha W B ad H0 H σ S _ fun v H1 S1 e1 d1 => ⟨rfl, by rw [dp_none d1]; exact q _ H1 S1 e1 (.bl _)⟩
/-! ### items -/
theorem dpa_atI {K : Fg} {H : Hp} {ds : List PyData} {vs : List V} {i : Int} {d : PyData} (h : DpAll K H vs ds) (e : atI ds i = some d) : ∃ v, atI vs i = some v ∧ Dp K H v d := by
  unfold atI at e ⊢
  rw [dpa_len h]
  cases q : ixN ds.length i with
  | none => rw [q] at e; cases e
  | some j =>
    rw [q] at e
    exact dpa_get h e
theorem ev_ixT {xs : List PyData} {i : Int} (ha : EvG K ta G s (.tuple xs) s1) (hb : EvG K tb G s1 (.int i) s2) (he : atI xs i = some x) : EvG K (tOp (rIx K) ta tb) G s x s2 := fun W B ad H0 H σ S Q q =>
  ha W B ad H0 H σ S _ fun v H1 S1 e1 d1 => hb W B ad H0 H1 σ S1 _ fun w H2 S2 e2 d2 => by
    cases d2
    cases dp_mono e2.l d1 with
    | tup h t =>
      obtain ⟨v, g1, g2⟩ := dpa_atI t he
      exact .inr (.inl ⟨_, _, i, v, rfl, rfl, ex_t less_ex h, g1, q _ H2 S2 (e1.trans e2) g2⟩)
theorem ev_ixL {xs : List PyData} {i : Int} (ha : EvG K ta G s (.list xs) s1) (hb : EvG K tb G s1 (.int i) s2) (he : atI xs i = some x) : EvG K (tOp (rIx K) ta tb) G s x s2 := fun W B ad H0 H σ S Q q =>
  ha W B ad H0 H σ S _ fun v H1 S1 e1 d1 => hb W B ad H0 H1 σ S1 _ fun w H2 S2 e2 d2 => by
    cases d2
    cases dp_mono e2.l d1 with
    | lst h t =>
      obtain ⟨v, g1, g2⟩ := dpa_atI t he
      exact .inl ⟨_, _, i, v, rfl, rfl, ex_l less_ex h, g1, q _ H2 S2 (e1.trans e2) g2⟩
/-! ### tests -/
theorem et_test {b : Bool} (h : EvG K te G s (.bool b) s') : EvT K (tTest te) G s b s' := fun W B ad H0 H σ S Q q => h W B ad H0 H σ S _ fun v H1 S1 e1 d1 => by
  cases d1
  exact ⟨b, rfl, q H1 S1 e1⟩
theorem et_B {b : Bool} (h : EvG K te G s (.bool b) s') : EvT K (tB te) G s b s' := fun W B ad H0 H σ S Q q => h W B ad H0 H σ S _ fun v H1 S1 e1 d1 => by
  cases d1
  exact ⟨b, rfl, q H1 S1 e1⟩
theorem et_not {b : Bool} (h : EvT K t G s b s') : EvT K (tNot t) G s (!b) s' := fun W B ad H0 H σ S Q q => h W B ad H0 H σ S _ q
theorem et_orF {b : Bool} (h : EvT K t G s false s1) (h2 : EvT K u G s1 b s2) : EvT K (tOr t u) G s b s2 := fun W B ad H0 H σ S Q q => h W B ad H0 H σ S _ fun H1 S1 e1 => iteF (h2 W B ad H0 H1 σ S1 _ fun H2 S2 e2 => q H2 S2 (e1.trans e2))
theorem ev_andT (h : EvG K ta G s (.bool true) s1) (h2 : EvG K tb G s1 x s2) : EvG K (tAndV ta tb) G s x s2 := fun W B ad H0 H σ S Q q => h W B ad H0 H σ S _ fun v H1 S1 e1 d1 => by
  cases d1
  exact ⟨true, rfl, iteT (h2 W B ad H0 H1 σ S1 _ fun v H2 S2 e2 d2 => q v H2 S2 (e1.trans e2) d2)⟩
theorem ev_not {a : Bool} (h : EvG K ta G s (.bool a) s') : EvG K (tNotV ta) G s (.bool (!a)) s' := fun W B ad H0 H σ S Q q => h W B ad H0 H σ S _ fun v H1 S1 e1 d1 => by
  cases d1
  exact ⟨a, rfl, q _ H1 S1 e1 (.bl _)⟩
/-! ### what a def promises: of data; of the bag and data -/
noncomputable def spP (K : Fg) (P : List PyData → PyData → Prop) : Sp := fun vs H Q _ => ∃ (W : Addr → Prop) (ds : List PyData) (r : PyData), (∀ a, W a → ∃ o, H a = some o) ∧ DpAll K (less H W) vs ds ∧ P ds r ∧ ∀ v H', Ex H H' → Dp K (less H' W) v r → Q v H'
noncomputable def spB (K : Fg) (P : Bag → List PyData → PyData → Bag → Prop) : Sp := fun vs H Q _ => ∃ (W : Addr → Prop) (b c : Addr) (us : List V) (s : Bag) (ds : List PyData) (r : PyData) (s' : Bag), (∀ a, W a → ∃ o, H a = some o) ∧ vs = .ref b :: us ∧ BagAt H (some (b, c)) s ∧
  DpAll K (less H fun a => W a ∨ InB (some (b, c)) a) us ds ∧ P s ds r s' ∧ ∀ v H', (∀ a o, H a = some o → ¬ InB (some (b, c)) a → H' a = some o) → BagAt H' (some (b, c)) s' → Dp K (less H' fun a => W a ∨ InB (some (b, c)) a) v r → Q v H'
theorem bag_there {H : Hp} {B : Option (Addr × Addr)} {a : Addr} (h : BagAt H B s) (z : InB B a) : ∃ o, H a = some o := by
  obtain ⟨b, c, rfl, z⟩ := z
  rcases z with rfl | rfl
  · exact ⟨_, h.1⟩
  · exact ⟨_, h.2.1⟩
theorem Sta.there {W : Addr → Prop} {B : Option (Addr × Addr)} {ad : Nat → Addr} {H0 H : Hp} {σ : St} (S : Sta K W B ad H0 H σ G s) (a : Addr) (z : Zs W B ad G a) : ∃ o, H a = some o := by
  by_cases hb : InB B a
  · exact bag_there S.bag hb
  rcases z with z | ⟨i, xs, g, rfl⟩ | z
  · exact S.wd _ z
  · obtain ⟨_, _, _, vs, h1, _⟩ := S.at_ i _ g
    exact ⟨_, h1⟩
  · exact absurd z hb
theorem ev_call {P : List PyData → PyData → Prop} {ta : TA} {ds : List PyData} {dvs : List V} {des : List PyData} {E : XK} (h : EvA K ta G s ds s') (hd : ∀ H, DpAll K H dvs des) (hp : P (ds ++ des) x) : EvG K (tCall (spP K P) dvs E ta) G s x s' := fun W B ad H0 H σ S Q q =>
  h W B ad H0 H σ S _ fun vs H1 S1 e1 d1 => ⟨Zs W B ad G, ds ++ des, x, S1.there, dpa_app d1 (hd _), hp, fun v H' e d => q v H' (S1.ext e) (e1.trans (.of e)) d⟩
theorem ev_callB {P : Bag → List PyData → PyData → Bag → Prop} {tr : TA} {i : Nat} {ds : List PyData} {E : XK} (hi : G[i]? = some .bag) (h : EvA K tr G s ds s1) (hp : P s1 ds x s') : EvG K (tCall (spB K P) [] E (tCons (tVar i) tr)) G s x s' := fun W B ad H0 H σ S Q q => by
  obtain ⟨o, g1, b, c, rfl, rfl⟩ := S.at_ i _ hi
  refine ⟨_, g1, h W _ ad H0 H σ S _ fun vs H1 S1 e1 d1 => ?_⟩
  have zz : ∀ a, (((fun a => W a ∨ ∃ i xs, G[i]? = some (En.own xs) ∧ a = ad i) a) ∨ InB (some (b, c)) a) ↔ Zs W (some (b, c)) ad G a := fun a => or_assoc
  have zl : ∀ H : Hp, (less H fun a => (W a ∨ ∃ i xs, G[i]? = some (En.own xs) ∧ a = ad i) ∨ InB (some (b, c)) a) = less H (Zs W (some (b, c)) ad G) := fun H => congrArg (less H) (funext fun a => propext (zz a))
  refine ⟨fun a => W a ∨ ∃ i xs, G[i]? = some (En.own xs) ∧ a = ad i, b, c, vs, s1, ds, x, s', fun a z => S1.there a ((zz a).mp (.inl z)), ?_, S1.bag, ?_, hp, fun v H' e hb d => ?_⟩
  · rw [List.append_nil]
  · rw [zl]; exact d1
  · rw [zl] at d
    exact q v H' (S1.drawn e hb) (e1.trans e) d
end
end U

end
section
namespace U
open PySem L2 Evl
/-! ### built-ins, by name -/
noncomputable def rAbs : List V → Hp → VK → Prop := fun xs H Q => ∃ i, xs = [.int i] ∧ Q (.int (if i < 0 then -i else i)) H
noncomputable def rMx : List V → Hp → VK → Prop := fun xs H Q => ∃ i j, xs = [.int i, .int j] ∧ Q (.int (if j > i then j else i)) H
noncomputable def rLenQ (K : Fg) : List V → Hp → VK → Prop := fun xs H Q => ∃ p ys, xs = [.ref p] ∧ (SqL K H p ys ∨ SqT K H p ys) ∧ Q (.int ys.length) H
noncomputable def rListQ (K : Fg) : List V → Hp → VK → Prop := fun xs H Q => ∃ p ys, xs = [.ref p] ∧ (SqL K H p ys ∨ SqT K H p ys) ∧ ∀ l, H l = none → Q (.ref l) (upd H l (.lst ys))
noncomputable def rIsNo : R2 := fun x y H Q => y = .non ∧ Q (.bl (decide (x = .non))) H
section
variable {X : Cx}
theorem c_abs : CallR X (.builtin "abs") rAbs := call_abs
theorem c_max2 (hc : X.calm = true) : CallR X (.builtin "max") rMx := call_max2 hc
theorem c_len : CallR X (.builtin "len") (rLenQ X.K) := call_len_seq
theorem c_list : CallR X (.type "list") (rListQ X.K) := call_list_of
theorem o_isN : OpR X (compareOp .Is) rIsNo := op_isN
end
section
variable {K : Fg} {G G1 G2 : Gam} {s s1 s2 s3 s' : Bag} {ta tb tc te : TE} {t u : TT} {x y z : PyData}
theorem ev_isNo (ha : EvG K ta G s x s') : EvG K (tOp rIsNo ta (tC .non)) G s (.bool (isNoneD x)) s' := ev_isN ha
/-- a call of a built-in upon data -/
theorem ev_cb {r : List V → Hp → VK → Prop} {ta : TA} {xs : List PyData} (h : EvA K ta G s xs s')
    (hr : ∀ W B ad H0 H σ vs, Sta K W B ad H0 H σ G s' → DpAll K (less H (Zs W B ad G)) vs xs → ∀ Q : VK, (∀ v H2, Sta K W B ad H0 H2 σ G s' → Xb B H H2 → Dp K (less H2 (Zs W B ad G)) v x → Q v H2) → r vs H Q) : EvG K (tCB r ta) G s x s' := fun W B ad H0 H σ S Q q =>
  h W B ad H0 H σ S _ fun vs H1 S1 e1 d1 => hr W B ad H0 H1 σ vs S1 d1 Q fun v H2 S2 e2 d2 => q v H2 S2 (e1.trans e2) d2
theorem dp1 {H : Hp} {vs : List V} {x : PyData} (h : DpAll K H vs [x]) : ∃ v, vs = [v] ∧ Dp K H v x := by
  cases h with
  | cons a b => cases b; exact ⟨_, rfl, a⟩
theorem dp2 {H : Hp} {vs : List V} {x y : PyData} (h : DpAll K H vs [x, y]) : ∃ v w, vs = [v, w] ∧ Dp K H v x ∧ Dp K H w y := by
  cases h with
  | cons a b => obtain ⟨w, rfl, c⟩ := dp1 b; exact ⟨_, w, rfl, a, c⟩
noncomputable def absI (i : Int) : Int := if i < 0 then -i else i
noncomputable def maxI (i j : Int) : Int := if j > i then j else i
theorem ev_abs {i : Int} (h : EvG K ta G s (.int i) s') : EvG K (tCB rAbs (tCons ta tNil)) G s (.int (absI i)) s' := ev_cb (ea_cons h ea_nil) fun W B ad H0 H σ vs S d Q q => by
  obtain ⟨v, rfl, d1⟩ := dp1 d
  cases d1
  exact ⟨i, rfl, q _ H S (Xb.refl) (.int _)⟩
theorem ev_max {i j : Int} (h : EvG K ta G s (.int i) s1) (h2 : EvG K tb G s1 (.int j) s') : EvG K (tCB rMx (tCons ta (tCons tb tNil))) G s (.int (maxI i j)) s' := ev_cb (ea_cons h (ea_cons h2 ea_nil)) fun W B ad H0 H σ vs S d Q q => by
  obtain ⟨v, w, rfl, d, d2⟩ := dp2 d
  cases d; cases d2
  exact ⟨i, j, rfl, q _ H S (Xb.refl) (.int _)⟩
theorem ev_lenT {xs : List PyData} (h : EvG K ta G s (.tuple xs) s') : EvG K (tCB (rLenQ K) (tCons ta tNil)) G s (.int xs.length) s' := ev_cb (ea_cons h ea_nil) fun W B ad H0 H σ vs S d Q q => by
  obtain ⟨v, rfl, d1⟩ := dp1 d
  cases d1 with
  | tup g t => exact ⟨_, _, rfl, .inr (ex_t less_ex g), by rw [dpa_len t]; exact q _ H S (Xb.refl) (.int _)⟩
theorem ev_lenL {xs : List PyData} (h : EvG K ta G s (.list xs) s') : EvG K (tCB (rLenQ K) (tCons ta tNil)) G s (.int xs.length) s' := ev_cb (ea_cons h ea_nil) fun W B ad H0 H σ vs S d Q q => by
  obtain ⟨v, rfl, d1⟩ := dp1 d
  cases d1 with
  | lst g t => exact ⟨_, _, rfl, .inl (ex_l less_ex g), by rw [dpa_len t]; exact q _ H S (Xb.refl) (.int _)⟩
theorem dpa_bools {H : Hp} : ∀ {bs : List Bool} {vs : List V}, DpAll K H vs (bs.map PyData.bool) → vs = bs.map V.bl
  | [], _, .nil => rfl
  | b :: r, _, .cons h t => by cases h; rw [dpa_bools t]; rfl
theorem dpa_ints {H : Hp} : ∀ {bs : List Int} {vs : List V}, DpAll K H vs (bs.map PyData.int) → vs = bs.map V.int
  | [], _, .nil => rfl
  | b :: r, _, .cons h t => by cases h; rw [dpa_ints t]; rfl
theorem dpa_of_ints {H : Hp} : ∀ (bs : List Int), DpAll K H (bs.map V.int) (bs.map PyData.int)
  | [] => .nil
  | b :: r => .cons (.int b) (dpa_of_ints r)
theorem ev_all {bs : List Bool} (h : EvG K ta G s (.list (bs.map PyData.bool)) s') : EvG K (tCB (rAll K) (tCons ta tNil)) G s (.bool (bs.all id)) s' := ev_cb (ea_cons h ea_nil) fun W B ad H0 H σ vs S d Q q => by
  obtain ⟨v, rfl, d1⟩ := dp1 d
  cases d1 with
  | lst g t =>
    have e := dpa_bools t
    subst e
    exact ⟨_, bs, rfl, ex_l less_ex g, q _ H S (Xb.refl) (.bl _)⟩
/-! ### isinstance -/
noncomputable def tyN : PyData → String
  | .none => "NoneType"
  | .bool _ => "bool"
  | .int _ => "int"
  | .str _ => "str"
  | .list _ => "list"
  | .tuple _ => "tuple"
  | .dict _ => "dict"
theorem dp_ty {H : Hp} {Z : Addr → Prop} {v : V} {x : PyData} (h : Dp K (less H Z) v x) : TyX K H v (.type (tyN x)) := qt_of (by simp (disch := with_unfolding_all
  cases h with
  | non => exact .base .non
  | bl b => exact .base (.bl b)
  | int i => exact .base (.int i)
  | str i => exact .base (.str i)
  | lst g _ =>
    rcases ex_l less_ex g with (g | ⟨o, g⟩) | ⟨o, its, n, k, c, _⟩
    · exact .base (.lst g)
    · exact .base (.frz g)
    · exact .kList k c
  | tup g _ =>
    rcases ex_t less_ex g with (g | ⟨o, g⟩) | ⟨o, its, n, k, c, _⟩
    · exact .base (.tup g)
    · exact .fTuple g
    · exact .kTuple k c
  ) only [↓qt_eq])
/-- isinstance(x, T), T a built-in class -/
theorem ev_isi {n : String} {b : Bool} (h : EvG K ta G s x s') (hb : kitB (tyN x) n = some b) : EvG K (tCB (rIsi K) (tCons ta (tCons (tC (.ty n)) tNil))) G s (.bool b) s' := fun W B ad H0 H σ S Q q =>
  h W B ad H0 H σ S _ fun v H1 S1 e1 d1 => ⟨v, .ty n, _, _, b, rfl, .ty n, dp_ty d1, kit_ty hb, q _ H1 S1 e1 (.bl _)⟩
/-- isinstance(x, (S, T)) -/
theorem ev_isi2 {n m : String} {b c : Bool} (h : EvG K ta G s x s') (hb : kitB (tyN x) n = some b) (hc : kitB (tyN x) m = some c) : EvG K (tCB (rIsiT K) (tCons ta (tCons (tTup (tCons (tC (.ty n)) (tCons (tC (.ty m)) tNil))) tNil))) G s (.bool (b || c)) s' := fun W B ad H0 H σ S Q q =>
  h W B ad H0 H σ S _ fun v H1 S1 e1 d1 => ⟨by show 2 ≤ sizeLine; decide, fun p hp => by
    obtain ⟨S2, e2, g⟩ := new_ex (o := .tup [V.ty n, V.ty m]) S1 hp
    refine ⟨v, p, [.ty n, .ty m], _, [.type n, .type m], b || c, rfl, (less_some g).2, .cons (.ty n) (.cons (.ty m) .nil), dp_ty (dp_mono e2.l d1), kitAny_cons (kit_ty hb) (fun e => kitAny_cons (kit_ty hc) (fun e2 => ?_) fun e2 => ?_) (fun e => ?_), q _ _ S2 (e1.trans e2) (.bl _)⟩
    · rw [e, e2]; rfl
    · rw [e, e2]; rfl
    · rw [e]; rfl⟩
/-! ### slices -/
end
end U

end
section
namespace U
open PySem L2 Evl
section
variable {K : Fg} {G G1 G2 : Gam} {s s1 s2 s3 s' : Bag} {ta tb tc te : TE} {t u : TT} {x y z : PyData} {tu tw tz : TS} {o : Out}
theorem Post.mono {W : Addr → Prop} {B : Option (Addr × Addr)} {H0 M M' : Hp} {D : Ends} (e : Ex M M') (h : Post K W B H0 M D o) : Post K W B H0 M' D o := qt_of (by simp (disch := with_unfolding_all
  cases o with
  | nx G s => exact fun ad H σ S x => h ad H σ S (e.trans x)
  | rt x s => exact h
  | bk G s => exact fun ad H σ S x => h ad H σ S (e.trans x)
  | ct G s => exact fun ad H σ S x => h ad H σ S (e.trans x)
  ) only [↓qt_eq])
theorem sg_seq (h : SG K tu G s (.nx G1 s1)) (k : SG K tz G1 s1 o) : SG K (tSeq tu tz) G s o := fun W B ad H0 H σ D S p =>
  h W B ad H0 H σ { D with nx := tz D } S fun ad' H' σ' S' e => k W B ad' H0 H' σ' D S' (p.mono e)
theorem sg_seqR (h : SG K tu G s (.rt x s1)) : SG K (tSeq tu tz) G s (.rt x s1) := fun W B ad H0 H σ D S p => h W B ad H0 H σ { D with nx := tz D } S p
theorem sg_next : SG K tNext G s (.nx G s) := fun W B ad H0 H σ D S p => p ad H σ S (Ex.refl _)
theorem sg_asg {i : Nat} (h : EvG K te G s x s1) : SG K (tAsg te (gName i)) G s (.nx (G.set i (.d x)) s1) := fun W B ad H0 H σ D S p =>
  h W B ad H0 H σ S _ fun v H1 S1 e1 d1 => p ad H1 _ (S1.setD d1) (e1.l.trans (less_sub fun a q => Zs.set_of (fun _ z => by cases z) q))
theorem sg_ret (h : EvG K te G s x s1) : SG K (tRet te) G s (.rt x s1) := fun W B ad H0 H σ D S p =>
  h W B ad H0 H σ S _ fun v H1 S1 e1 d1 => p v H1 S1.base S1.bag (dp_mono (less_sub fun a q => q.elim .inl fun z => .inr (.inr z)) d1)
/-- if c: return .. else on -/
theorem sg_when {b : Bool} (h : EvT K t G s b s1) (k1 : b = true → SG K (tSeq tu tz) G s1 o) (k2 : b = false → SG K tz G s1 o) : SG K (tSeq (tIfS t tu tNext) tz) G s o := fun W B ad H0 H σ D S p =>
  h W B ad H0 H σ S _ fun H1 S1 e1 => by
    cases b with
    | true => exact iteT (k1 rfl W B ad H0 H1 σ D S1 (p.mono e1.l))
    | false => exact iteF (k2 rfl W B ad H0 H1 σ D S1 (p.mono e1.l))
/-- x, y = a, b -/
theorem sg_par {i j : Nat} {ta : TA} (h : EvA K ta G s [x, y] s1) : SG K (tPar i j ta) G s (.nx ((G.set i (.d x)).set j (.d y)) s1) := fun W B ad H0 H σ D S p =>
  h W B ad H0 H σ S _ fun vs H1 S1 e1 d1 => by
    obtain ⟨v, w, rfl, d, d2⟩ := dp2 d1
    have e2 : Ex (less H1 (Zs W B ad G)) (less H1 (Zs W B ad (G.set i (.d x)))) := less_sub fun a q => Zs.set_of (fun _ z => by cases z) q
    have S2 := S1.setD (i := i) d
    exact ⟨v, w, rfl, p ad H1 _ (S2.setD (i := j) (dp_mono e2 d2)) (e1.l.trans (e2.trans (less_sub fun a q => Zs.set_of (fun _ z => by cases z) q)))⟩
/-! ### targets that are tuples of names -/
/-! ### lists of one's own -/
/-- what is no longer needed is forgotten -/
inductive Wk : Gam → Gam → Prop
  | nil : Wk [] []
  | cons {e : En} {G G' : Gam} : Wk G G' → Wk (e :: G) (e :: G')
  | drop {e : En} {G G' : Gam} : Wk G G' → Wk (e :: G) (.un :: G')
theorem Wk.refl : ∀ G : Gam, Wk G G
  | [] => .nil
  | _ :: G => .cons (Wk.refl G)
theorem Wk.length : ∀ {G G' : Gam}, Wk G G' → G.length = G'.length
  | _, _, .nil => rfl
  | _, _, .cons h => congrArg (· + 1) h.length
  | _, _, .drop h => congrArg (· + 1) h.length
theorem Wk.get : ∀ {G G' : Gam} {i : Nat} {e : En}, Wk G G' → G'[i]? = some e → G[i]? = some e ∨ e = .un
  | _, _, _, _, .nil, h => by simp at h
  | _, _, 0, _, .cons _, h => .inl h
  | _, _, 0, _, .drop _, h => .inr (Option.some.inj h).symm
  | _, _, i + 1, _, .cons w, h => Wk.get (i := i) w h
  | _, _, i + 1, _, .drop w, h => Wk.get (i := i) w h
theorem Wk.own {G G' : Gam} {i : Nat} {xs : List PyData} (w : Wk G G') (h : G'[i]? = some (.own xs)) : G[i]? = some (.own xs) := (w.get h).resolve_right fun z => by cases z
theorem Wk.ex {W : Addr → Prop} {B : Option (Addr × Addr)} {ad : Nat → Addr} {H : Hp} {G G' : Gam} (w : Wk G G') : Ex (less H (Zs W B ad G)) (less H (Zs W B ad G')) := less_sub fun a q => by
  rcases q with q | ⟨i, xs, g, r⟩ | q
  · exact .inl q
  · exact .inr (.inl ⟨i, xs, w.own g, r⟩)
  · exact .inr (.inr q)
theorem Sta.wk {W : Addr → Prop} {B : Option (Addr × Addr)} {ad : Nat → Addr} {H0 H : Hp} {σ : St} {G G' : Gam} (w : Wk G G') (S : Sta K W B ad H0 H σ G s) : Sta K W B ad H0 H σ G' s where
  len := S.len.trans w.length
  at_ := fun i e h => by
    rcases w.get h with g | rfl
    · obtain ⟨o, g1, g2⟩ := S.at_ i e g
      exact ⟨o, g1, g2.mono w.ex fun _ _ _ q => q⟩
    · have il : i < σ.length := by rw [S.len, w.length]; exact (List.getElem?_eq_some_iff.mp h).1
      exact ⟨σ[i], List.getElem?_eq_getElem il, trivial⟩
  inj := fun i j xs ys g g' q => S.inj i j xs ys (w.own g) (w.own g') q
  sep := fun i xs g => S.sep i xs (w.own g)
  base := S.base
  bag := S.bag
  wd := S.wd
theorem sg_wk (h : SG K tu G s (.nx G1 s1)) (w : Wk G1 G2) : SG K tu G s (.nx G2 s1) := fun W B ad H0 H σ D S p =>
  h W B ad H0 H σ D S fun ad' H' σ' S' e => p ad' H' σ' (S'.wk w) (e.trans w.ex)
theorem sg_is {o'} (h : SG K tu G s o) (e : o = o') : SG K tu G s o' := e ▸ h
/-! ### loops -/
/-- what a turn of a loop may end with: going on -/
noncomputable def Turn (K : Fg) (tb : TS) (G : Gam) (s : Bag) (G' : Gam) (s' : Bag) : Prop := SG K tb G s (.nx G' s') ∨ SG K tb G s (.ct G' s')
theorem Turn.run {tb : TS} {G' : Gam} (h : Turn K tb G s G' s') {W : Addr → Prop} {B : Option (Addr × Addr)} {ad : Nat → Addr} {H0 H : Hp} {σ : St} {D : Ends} {N : St → Hp → Prop} (S : Sta K W B ad H0 H σ G s) (hn : D.nx = N) (hc : D.ct = N)
    (q : ∀ ad' H' σ', Sta K W B ad' H0 H' σ' G' s' → Ex (less H (Zs W B ad G)) (less H' (Zs W B ad' G')) → N σ' H') : tb D σ H := by
  rcases h with h | h
  · exact h W B ad H0 H σ D S fun ad' H' σ' S' e => by rw [hn]; exact q ad' H' σ' S' e
  · exact h W B ad H0 H σ D S fun ad' H' σ' S' e => by rw [hc]; exact q ad' H' σ' S' e
/-- while, by its states one behind the other -/
theorem sg_while {tb : TS} (GG : Nat → Gam) (SS TS' : Nat → Bag) (n : Nat) (w0 : Wk G (GG 0)) (h0 : SS 0 = s) (ht : ∀ i, i < n → EvT K t (GG i) (SS i) true (TS' i)) (hs : ∀ i, i < n → Turn K tb (GG i) (TS' i) (GG (i + 1)) (SS (i + 1)))
    (he : EvT K t (GG n) (SS n) false s') : SG K (tWhile t tb) G s (.nx (GG n) s') := fun W B ad H0 H σ D S p => by
  refine ⟨fun m σ' H' => ∃ i ad', m = n - i ∧ i ≤ n ∧ Sta K W B ad' H0 H' σ' (GG i) (SS i) ∧ Ex (less H (Zs W B ad G)) (less H' (Zs W B ad' (GG i))), ⟨n, 0, ad, rfl, Nat.zero_le _, by rw [h0]; exact S.wk w0, w0.ex⟩, ?_⟩
  rintro m σ' H' ⟨i, ad', rfl, hi, S', e'⟩
  by_cases hlt : i < n
  · refine ht i hlt W B ad' H0 H' σ' S' _ fun H2 S2 e2 => iteT ⟨fun σ3 H3 => ∃ ad3, Sta K W B ad3 H0 H3 σ3 (GG (i + 1)) (SS (i + 1)) ∧ Ex (less H (Zs W B ad G)) (less H3 (Zs W B ad3 (GG (i + 1)))), ?_, ?_⟩
    · rintro σ3 H3 ⟨ad3, S3, e3⟩
      exact ⟨n - (i + 1), by omega, i + 1, ad3, rfl, hlt, S3, e3⟩
    · exact (hs i hlt).run S2 rfl rfl fun ad3 H3 σ3 S3 e3 => ⟨ad3, S3, (e'.trans e2.l).trans e3⟩
  · have en : i = n := by omega
    subst en
    exact he W B ad' H0 H' σ' S' _ fun H2 S2 e2 => iteF (p ad' H2 σ' S2 (e'.trans e2.l))
end
end U

end
section
namespace U
open PySem L2 Evl
/-! ### what is walked, and into which names -/
noncomputable def ItOk (K : Fg) (J : It) (ds : List PyData) (M : Hp) : Prop := ∀ (H' : Hp) (Z : Addr → Prop), (∀ a, Z a → ∃ o, H' a = some o) → Ex M (less H' Z) → ∀ i,
  (∀ d, ds[i]? = some d → J.go i H') ∧ (ds.length ≤ i → J.stop i H') ∧ ∀ x H'', J.yld i H' x H'' → Ex H' H'' ∧ ∀ d, ds[i]? = some d → Dp K (less H'' Z) x d
noncomputable def Src (K : Fg) (wi : TI) (G : Gam) (s : Bag) (ds : List PyData) (s1 : Bag) : Prop :=
  ∀ W B ad H0 H σ, Sta K W B ad H0 H σ G s → ∀ R : It → Hp → Prop, (∀ J H1, Sta K W B ad H0 H1 σ G s1 → Xb B H H1 → ItOk K J ds (less H1 (Zs W B ad G)) → R J H1) → wi σ H R
noncomputable def Off (vs : List Nat) (G G' : Gam) : Prop := G.length = G'.length ∧ (∀ i, i ∉ vs → G'[i]? = G[i]?) ∧ ∀ i xs, i ∈ vs → G'[i]? ≠ some (.own xs)
noncomputable def Tgt (K : Fg) (g : TG) (vs : List Nat) (G : Gam) (x : PyData) (G' : Gam) : Prop := Off vs G G' ∧ ∀ W B ad H0 H σ s v, Sta K W B ad H0 H σ G s → Dp K (less H (Zs W B ad G)) v x → ∀ Q : St → Hp → Prop,
  (∀ σ', Sta K W B ad H0 H σ' G' s → Ex (less H (Zs W B ad G)) (less H (Zs W B ad G')) → wipe σ' vs = wipe σ vs → Q σ' H) → g v σ H Q
section
variable {K : Fg} {G G' G1 G2 : Gam} {s s1 s2 s3 s' : Bag} {ta tb tc te : TE} {t u : TT} {x y z : PyData} {tu tw tz : TS} {o : Out}
noncomputable def rngD (lo : Int) (n : Nat) : List PyData := (List.range n).map fun i : Nat => .int (lo + (i : Int))
theorem rngD_len (lo : Int) (n : Nat) : (rngD lo n).length = n := by simp [rngD]
theorem rngD_get {lo : Int} {n i : Nat} (h : i < n) : (rngD lo n)[i]? = some (.int (lo + (i : Int))) := by
  unfold rngD
  rw [List.getElem?_map, List.getElem?_range h]
  rfl
theorem it_rng {lo : Int} {n : Nat} {M : Hp} : ItOk K (Itr lo n) (rngD lo n) M := fun H' Z hz e i => by
  refine ⟨fun d hd => ?_, fun hl => ?_, fun x H'' hy => ?_⟩
  · have := (List.getElem?_eq_some_iff.mp hd).1
    rw [rngD_len] at this
    exact this
  · rw [rngD_len] at hl
    exact hl
  · obtain ⟨rfl, rfl⟩ := hy
    refine ⟨Ex.refl _, fun d hd => ?_⟩
    have hl := (List.getElem?_eq_some_iff.mp hd).1
    rw [rngD_len] at hl
    rw [rngD_get hl] at hd
    cases hd
    exact .int _
theorem src_rng1 {ta : TA} {n : Int} (h : EvA K ta G s [.int n] s1) (hn : -1000000 ≤ n ∧ n ≤ 1000000) : Src K (iRng1 ta) G s (rngD 0 n.toNat) s1 := fun W B ad H0 H σ S R q => h W B ad H0 H σ S _ fun vs H1 S1 e1 d1 => by
  obtain ⟨v, rfl, d⟩ := dp1 d1
  cases d
  exact ⟨n, rfl, by omega, by omega, q _ H1 S1 e1 it_rng⟩
/-! ### targets -/
theorem tgt_name {j : Nat} : Tgt K (gName j) [j] G x (G.set j (.d x)) := by
  refine ⟨⟨by rw [List.length_set], fun i hi => ?_, fun i xs hi h => ?_⟩, fun W B ad H0 H σ s v S d Q q => q _ (S.setD d) (less_sub fun a q => Zs.set_of (fun _ z => by cases z) q) ?_⟩
  · rw [List.getElem?_set_ne (fun z => hi (by rw [z]; exact List.mem_singleton.mpr rfl))]
  · rcases get_set h with ⟨rfl, l, e⟩ | ⟨z, g⟩
    · cases e
    · exact z (List.mem_singleton.mp hi).symm
  · show (List.set (List.set σ j (some v)) j none) = List.set σ j none
    rw [List.set_set]
theorem wipe_set : ∀ {vs : List Nat} {σ : St} {i : Nat} {o : Option V}, i ∈ vs → wipe (σ.set i o) vs = wipe σ vs
  | v :: vs, σ, i, o, h => by
    show (wipe (σ.set i o) vs).set v none = (wipe σ vs).set v none
    by_cases hv : i ∈ vs
    · rw [wipe_set hv]
    · have e : i = v := (List.mem_cons.mp h).resolve_right hv
      subst e
      have c : ∀ (vs : List Nat) (σ : St), i ∉ vs → wipe (σ.set i o) vs = (wipe σ vs).set i o := fun vs => by
        induction vs with
        | nil => exact fun _ _ => rfl
        | cons w vs ih =>
          intro σ hn
          show (wipe (σ.set i o) vs).set w none = ((wipe σ vs).set w none).set i o
          rw [ih σ (fun z => hn (List.mem_cons_of_mem _ z)), List.set_comm _ _ (fun z => hn (by rw [z]; exact List.mem_cons_self))]
      rw [c vs σ hv, List.set_set]
/-! ### for, over anything -/
/-! ### comprehensions -/
theorem wipe_get : ∀ {vs : List Nat} {σ : St} {i : Nat}, i ∉ vs → (wipe σ vs)[i]? = σ[i]?
  | [], _, _, _ => rfl
  | v :: vs, σ, i, h => by
    show ((wipe σ vs).set v none)[i]? = _
    rw [List.getElem?_set_ne (fun z => h (by rw [z]; exact List.mem_cons_self)), wipe_get (fun z => h (List.mem_cons_of_mem _ z))]
theorem wipe_wipe {vs : List Nat} {σ : St} : wipe (wipe σ vs) vs = wipe σ vs := qt_of (by simp (disch := with_unfolding_all
  have key : ∀ us : List Nat, (∀ i ∈ us, i ∈ vs) → wipe (wipe σ us) vs = wipe σ vs := fun us => by
    induction us with
    | nil => exact fun _ => rfl
    | cons u us ih =>
      intro h
      show wipe ((wipe σ us).set u none) vs = wipe σ vs
      rw [wipe_set (h u List.mem_cons_self), ih fun i hi => h i (List.mem_cons_of_mem _ hi)]
  exact key vs fun _ h => h
  ) only [↓qt_eq])
theorem Sta.slots {W : Addr → Prop} {B : Option (Addr × Addr)} {ad : Nat → Addr} {H0 H : Hp} {σ σ' : St} {vs : List Nat} (S : Sta K W B ad H0 H σ G s) (ho : Off vs G G') (hu : ∀ i e, i ∈ vs → G'[i]? = some e → e = .un) (hg : ∀ i xs, i ∈ vs → G[i]? ≠ some (.own xs)) (hw : wipe σ vs = wipe σ' vs) : Sta K W B ad H0 H σ' G' s := qt_of (by simp (disch := with_unfolding_all
  have hl : σ.length = σ'.length := by
    have := congrArg List.length hw
    rw [wipe_length, wipe_length] at this
    exact this
  have zz : ∀ a, Zs W B ad G' a ↔ Zs W B ad G a := fun a => by
    constructor
    · rintro (z | ⟨i, xs, g, r⟩ | z)
      · exact .inl z
      · by_cases hi : i ∈ vs
        · exact absurd (hu i _ hi g) (fun e => by cases e)
        · rw [ho.2.1 i hi] at g; exact .inr (.inl ⟨i, xs, g, r⟩)
      · exact .inr (.inr z)
    · rintro (z | ⟨i, xs, g, r⟩ | z)
      · exact .inl z
      · by_cases hi : i ∈ vs
        · exact absurd g (hg i xs hi)
        · exact .inr (.inl ⟨i, xs, by rw [ho.2.1 i hi]; exact g, r⟩)
      · exact .inr (.inr z)
  have zl : Zs W B ad G' = Zs W B ad G := funext fun a => propext (zz a)
  have own : ∀ (i : Nat) (xs : List PyData), G'[i]? = some (En.own xs) → G[i]? = some (En.own xs) := fun i xs g => by
    by_cases hi : i ∈ vs
    · exact absurd (hu i _ hi g) (fun e => by cases e)
    · rw [ho.2.1 i hi] at g; exact g
  refine ⟨hl ▸ (S.len.trans ho.1), fun i e g => ?_, fun i j xs ys g g' q => S.inj i j xs ys (own i xs g) (own j ys g') q, fun i xs g => S.sep i xs (own i xs g), S.base, S.bag, S.wd⟩
  by_cases hi : i ∈ vs
  · have e := hu i e hi g
    subst e
    have il : i < σ'.length := by rw [← hl, S.len, ho.1]; exact (List.getElem?_eq_some_iff.mp g).1
    exact ⟨σ'[i], List.getElem?_eq_getElem il, trivial⟩
  · rw [ho.2.1 i hi] at g
    obtain ⟨o, g1, g2⟩ := S.at_ i e g
    refine ⟨o, ?_, by rw [zl]; exact g2⟩
    rw [← wipe_get hi, ← hw, wipe_get hi]
    exact g1
  ) only [↓qt_eq])
theorem range_fm_succ (f : Nat → Option PyData) (i : Nat) : (List.range (i + 1)).filterMap f = (List.range i).filterMap f ++ (f i).toList := by
  rw [List.range_succ, List.filterMap_append]
  cases h : f i <;> simp [h]
/-- [elt for target in .. if ..]: f tells what each turn gives -/
theorem ev_lc {wi : TI} {g : TG} {vs : List Nat} {tt : TT} {ds : List PyData} (h : Src K wi G s ds s1) (f : Nat → Option PyData) (SS : Nat → Bag) (h0 : SS 0 = s1) (hu : ∀ i e, i ∈ vs → G[i]? = some e → e = .un) (hz : ds.length ≤ 16000000)
    (hs : ∀ i x, ds[i]? = some x → ∃ Gt s2, Tgt K g vs G x Gt ∧ EvT K tt Gt (SS i) (f i).isSome s2 ∧ (∀ y, f i = some y → EvG K te Gt s2 y (SS (i + 1))) ∧ (f i = none → s2 = SS (i + 1))) :
    EvG K (tLc wi g tt te vs) G s (.list ((List.range ds.length).filterMap f)) (SS ds.length) := fun W B ad H0 H σ S Q q =>
  h W B ad H0 H σ S _ fun J H1 S1 e1 ok Dl hD => by
    have hgu : ∀ i xs, i ∈ vs → G[i]? ≠ some (.own xs) := fun i xs hi g => by cases hu i _ hi g
    obtain ⟨L0, el0⟩ := S1.lend (o := .lst []) hD
    have fr := S1.fresh hD
    have npD : ¬ Zs W B ad G Dl := by
      rintro (z | ⟨i, xs, g, r⟩ | z)
      · obtain ⟨o, z⟩ := S1.wd _ z
        rw [hD] at z; cases z
      · obtain ⟨_, _, _, vs, h1, _⟩ := S1.at_ i _ g
        rw [← r, hD] at h1; cases h1
      · exact fr.2 z
    refine ⟨fun i m H' => m = ds.length - i ∧ i ≤ ds.length ∧ Sta K (fun a => W a ∨ a = Dl) B ad H0 H' σ G (SS i) ∧ Ex (less H1 (Zs W B ad G)) (less H' (Zs (fun a => W a ∨ a = Dl) B ad G)) ∧ Xb B H1 H' ∧
      ∃ acc, H' Dl = some (.lst acc) ∧ DpAll K (less H' (Zs (fun a => W a ∨ a = Dl) B ad G)) acc ((List.range i).filterMap f), ⟨ds.length, rfl, Nat.zero_le _, by rw [h0]; exact L0, by rw [el0]; exact Ex.refl _, .of (Ex.new hD), [], upd_same, .nil⟩, ?_⟩
    rintro i m H' ⟨rfl, hi, S', e', xb, acc, ha, hd⟩
    obtain ⟨k1, k2, k3⟩ := ok H' (Zs (fun a => W a ∨ a = Dl) B ad G) S'.there e' i
    by_cases hlt : i < ds.length
    · have hx : ds[i]? = some ds[i] := List.getElem?_eq_getElem hlt
      obtain ⟨Gt, s2, tg, ht, hy, hn⟩ := hs i _ hx
      refine .inr ⟨k1 _ hx, fun H3 => Sta K (fun a => W a ∨ a = Dl) B ad H0 H3 σ G (SS (i + 1)) ∧ Ex (less H1 (Zs W B ad G)) (less H3 (Zs (fun a => W a ∨ a = Dl) B ad G)) ∧ Xb B H1 H3 ∧
        ∃ acc, H3 Dl = some (.lst acc) ∧ DpAll K (less H3 (Zs (fun a => W a ∨ a = Dl) B ad G)) acc ((List.range (i + 1)).filterMap f), fun H3 h3 => ⟨ds.length - (i + 1), by omega, rfl, hlt, h3⟩, fun v H'' hyl => ?_⟩
      obtain ⟨ex, dx⟩ := k3 v H'' hyl
      have S2 := (S'.ext ex).slots (σ' := wipe σ vs) (G' := G) (vs := vs) ⟨rfl, fun _ _ => rfl, hgu⟩ hu hgu wipe_wipe.symm
      refine tg.2 _ B ad H0 H'' _ (SS i) v S2 (dx _ hx) _ fun σ2 S3 e3 ew => ⟨by rw [ew, wipe_wipe], ?_⟩
      have eZ : Zs (fun a => W a ∨ a = Dl) B ad Gt = Zs (fun a => W a ∨ a = Dl) B ad G := funext fun a => propext (by
        have own : ∀ (i : Nat) (xs : List PyData), Gt[i]? = some (En.own xs) ↔ G[i]? = some (En.own xs) := fun i xs => by
          by_cases hi : i ∈ vs
          · exact ⟨fun g => absurd g (tg.1.2.2 i xs hi), fun g => absurd g (hgu i xs hi)⟩
          · rw [tg.1.2.1 i hi]
        constructor
        · rintro (z | ⟨i, xs, g, r⟩ | z)
          · exact .inl z
          · exact .inr (.inl ⟨i, xs, (own i xs).mp g, r⟩)
          · exact .inr (.inr z)
        · rintro (z | ⟨i, xs, g, r⟩ | z)
          · exact .inl z
          · exact .inr (.inl ⟨i, xs, (own i xs).mpr g, r⟩)
          · exact .inr (.inr z))
      have back : ∀ {H5 : Hp} {b : Bag}, Sta K (fun a => W a ∨ a = Dl) B ad H0 H5 σ2 Gt b → Sta K (fun a => W a ∨ a = Dl) B ad H0 H5 σ G b := fun {H5 b} S5 =>
        S5.slots (G' := G) (vs := vs) ⟨tg.1.1.symm, fun i hi => (tg.1.2.1 i hi).symm, hgu⟩ hu tg.1.2.2 (by rw [ew, wipe_wipe])
      have hB : ¬ InB B Dl := fr.2
      have ha2 : H'' Dl = some (.lst acc) := ex _ _ ha
      have al : acc.length < sizeLine := by
        have h1 := dpa_len hd
        have h2 := List.length_filterMap_le f (List.range i)
        rw [List.length_range] at h2
        exact Nat.lt_of_lt_of_le (show acc.length < 16777216 by omega) (by decide)
      refine ht _ B ad H0 H'' σ2 S3 _ fun H3 S4 e4 => ?_
      have e5 : Ex (less H' (Zs (fun a => W a ∨ a = Dl) B ad G)) (less H3 (Zs (fun a => W a ∨ a = Dl) B ad G)) := (less_mono ex).trans e4.l
      cases hf : (f i) with
      | none =>
        rw [hn hf] at S4
        refine iteF ⟨back S4, e'.trans e5, (xb.trans (.of ex)).trans e4, acc, e4 _ _ ha2 hB, ?_⟩
        rw [range_fm_succ, hf]
        show DpAll K _ acc (_ ++ [])
        rw [List.append_nil]
        exact dpa_mono e5 hd
      | some y =>
        refine iteT ?_
        refine hy y hf _ B ad H0 H3 σ2 S4 _ fun w H4 S5 e6 dw => ?_
        rw [eZ] at dw
        have S6 := back S5
        have h0 : H0 Dl = none := fr.1
        obtain ⟨S7, el7⟩ := S6.foreign (o := .lst (acc ++ [w])) (p := Dl) (.inr rfl) h0 hB
        refine ⟨acc, e6 _ _ (e4 _ _ ha2 hB) hB, al, S7, ?_, ?_, acc ++ [w], upd_same, ?_⟩
        · rw [el7]
          exact e'.trans (e5.trans e6.l)
        · intro a o g n
          have na : a ≠ Dl := ne_of_none g hD
          rw [upd_ne na]
          exact ((((xb.trans (.of ex)).trans e4).trans e6) a o g n)
        · rw [el7, range_fm_succ, hf]
          exact dpa_app (dpa_mono (e5.trans e6.l) hd) (.cons dw .nil)
    · have en : i = ds.length := by omega
      subst en
      obtain ⟨S5, e5⟩ := S'.back
      refine .inl ⟨k2 (Nat.le_refl _), q _ H' S5 (e1.trans ?_) (.lst (sq_of (less_of npD ha)) (dpa_mono e5 hd))⟩
      exact fun a o g n => xb a o g n
end
end U

end
section
namespace U
open PySem PyProof.Rows L2 Evl
section
variable {K : Fg} {G G' G1 G2 : Gam} {s s1 s2 s3 s' : Bag} {ta tb tc te : TE} {t u : TT} {x y z : PyData} {tu tw tz : TS} {o : Out}
theorem range_fm_map {ds : List PyData} (F : PyData → PyData) : (List.range ds.length).filterMap (fun i => (ds[i]?).map F) = ds.map F := qt_of (by simp (disch := with_unfolding_all
  have key : ∀ (l : List PyData), (List.range l.length).filterMap (fun i => l[i]?) = l := fun l => by
    induction l with
    | nil => rfl
    | cons a l ih =>
      rw [List.length_cons, List.range_succ_eq_map, List.filterMap_cons]
      simp only [List.getElem?_cons_zero, List.filterMap_map]
      refine congrArg (a :: ·) ?_
      exact ih
  have h : (fun i : Nat => (ds[i]?).map F) = fun i : Nat => (ds.map F)[i]? := by
    funext i
    rw [List.getElem?_map]
  rw [h]
  have e := key (ds.map F)
  rw [List.length_map] at e
  exact e
  ) only [↓qt_eq])
theorem et_yes : EvT K tYes G s true s := fun W B ad H0 H σ S Q q => q H S Xb.refl
/-- [elt for target in ..], nothing drawn, no test -/
theorem ev_lcM {wi : TI} {g : TG} {vs : List Nat} {ds : List PyData} (h : Src K wi G s ds s1) (F : PyData → PyData) (hu : ∀ i e, i ∈ vs → G[i]? = some e → e = .un) (hz : ds.length ≤ 16000000)
    (hs : ∀ x, x ∈ ds → ∃ Gt, Tgt K g vs G x Gt ∧ EvG K te Gt s1 (F x) s1) : EvG K (tLc wi g tYes te vs) G s (.list (ds.map F)) s1 := qt_of (by simp (disch := with_unfolding_all
  have k := ev_lc (K := K) (te := te) (tt := tYes) h (fun i => (ds[i]?).map F) (fun _ => s1) rfl hu hz fun i x hx => by
    obtain ⟨Gt, a, b⟩ := hs x (List.mem_of_getElem? hx)
    refine ⟨Gt, s1, a, ?_, fun y hy => ?_, fun hn => rfl⟩
    · rw [hx]; exact et_yes
    · rw [hx] at hy
      cases hy
      exact b
  rw [range_fm_map] at k
  exact k
  ) only [↓qt_eq])
/-! ### deep equality -/
end
/-! ### defs -/
section
variable {Pg : Program} {w : World} {K : Fg} {mg : Str → Option Value} {base : Heap}
noncomputable def frame (n : Nat) (ds : List PyData) : Gam := ds.map .d ++ List.replicate (n - ds.length) .un
theorem frame_get {n i : Nat} {ds : List PyData} {e : En} (h : (frame n ds)[i]? = some e) : (∃ d, ds[i]? = some d ∧ e = .d d) ∨ (ds.length ≤ i ∧ e = .un) := qt_of (by simp (disch := with_unfolding_all
  unfold frame at h
  by_cases hi : i < ds.length
  · rw [List.getElem?_append_left (by rw [List.length_map]; exact hi), List.getElem?_map, List.getElem?_eq_getElem hi] at h
    exact .inl ⟨ds[i], List.getElem?_eq_getElem hi, (Option.some.inj h).symm⟩
  · have hi : ds.length ≤ i := by omega
    rw [List.getElem?_append_right (by rw [List.length_map]; exact hi)] at h
    exact .inr ⟨hi, (List.mem_replicate.mp (List.mem_of_getElem? h)).2⟩
  ) only [↓qt_eq])
theorem start_get {N : List Str} {vs : List V} {i : Nat} {v : V} (h : vs[i]? = some v) : (L2.start N vs)[i]? = some (some v) := by
  unfold L2.start
  have hi := (List.getElem?_eq_some_iff.mp h).1
  rw [List.getElem?_append_left (by rw [List.length_map]; exact hi), List.getElem?_map, h]
  rfl
theorem start_len {N : List Str} {vs : List V} : (L2.start N vs).length = vs.length + (N.length - vs.length) := by
  unfold L2.start
  rw [List.length_append, List.length_map, List.length_replicate]
/-- the state at a def's entry -/
theorem sta0 {N : List Str} {W : Addr → Prop} {H : Hp} {vs : List V} {ds : List PyData} (hW : ∀ a, W a → ∃ o, H a = some o) (hd : DpAll K (less H W) vs ds) (b : Bag) : Sta K W none (fun _ => 0) H H (L2.start N vs) (frame N.length ds) b := qt_of (by simp (disch := with_unfolding_all
  have no : ∀ (i : Nat) (xs : List PyData), (frame N.length ds)[i]? ≠ some (En.own xs) := fun i xs h => by
    rcases frame_get h with ⟨d, _, e⟩ | ⟨_, e⟩ <;> cases e
  have zz : ∀ a, Zs W none (fun _ => 0) (frame N.length ds) a → W a := by
    rintro a (z | ⟨i, xs, g, _⟩ | ⟨b, c, z, _⟩)
    · exact z
    · exact absurd g (no i xs)
    · cases z
  refine ⟨?_, fun i e h => ?_, fun i j xs ys g => absurd g (no i xs), fun i xs g => absurd g (no i xs), fun a o h _ => h, trivial, hW⟩
  · rw [start_len, dpa_len hd]
    unfold frame
    rw [List.length_append, List.length_map, List.length_replicate]
  · rcases frame_get h with ⟨d, hi, rfl⟩ | ⟨hi, rfl⟩
    · obtain ⟨v, hv, dv⟩ := dpa_get hd hi
      exact ⟨some v, start_get hv, v, rfl, dp_mono (less_sub zz) dv⟩
    · have il : i < (L2.start N vs).length := by
        rw [start_len, dpa_len hd]
        have := (List.getElem?_eq_some_iff.mp h).1
        unfold frame at this
        rw [List.length_append, List.length_map, List.length_replicate] at this
        exact this
      exact ⟨(L2.start N vs)[i], List.getElem?_eq_getElem il, trivial⟩
  ) only [↓qt_eq])
/-- a def of data -/
theorem okP {x qual : Str} {st : Stmt} {f : Addr} {fd : FuncData} {N ps : List Str} {k : Nat} {P : List PyData → PyData → Prop} (F : Fun K x qual st f fd) (S : FnScope N ps (defScope st)) (hl : ∀ ds r, P ds r → ds.length = ps.length)
    (hb : ∀ ds r, P ds r → ∀ (cdv : Value) (A : Around) (outer : List Env) (sh : Shared) (H : Hp) (E : XK), Room k (A.deeper (envOfC qual (defScope st) sh.heap.objs.size f cdv)) →
      ∃ t, PSs (cxOf CX0 Pg w K mg base N qual (defScope st) f cdv A outer sh H E).nox (defBody st) t ∧ ∀ b, SG K t (frame N.length ds) b (.rt r b)) : FnOk Pg w K mg base CX0 (k + 1) f fd ps (spP K P) := qt_of (by simp (disch := with_unfolding_all
  refine F.ok S (fun vs H Q E h => ?_) (fun cdv A outer sh H vs Q E hr h => ?_)
  · obtain ⟨W, ds, r, _, hd, hp, _⟩ := h
    rw [dpa_len hd]
    exact hl ds r hp
  · obtain ⟨W, ds, r, hW, hd, hp, q⟩ := h
    obtain ⟨t, ht, g⟩ := hb ds r hp cdv A outer sh H E hr
    refine ⟨t, ht, g ⟨[], 0, 0⟩ W none (fun _ => 0) H H _ _ (sta0 hW hd _) fun v H' e _ d => q v H' (fun a o h => e a o h (fun ⟨_, _, z, _⟩ => by cases z)) (dp_mono (less_sub fun a z => .inl z) d)⟩
  ) only [↓qt_eq])
theorem staB {N : List Str} {W : Addr → Prop} {H : Hp} {b c : Addr} {vs : List V} {ds : List PyData} {s : Bag} (hW : ∀ a, W a → ∃ o, H a = some o) (hB : BagAt H (some (b, c)) s) (hd : DpAll K (less H fun a => W a ∨ InB (some (b, c)) a) vs ds) :
    Sta K W (some (b, c)) (fun _ => 0) H H (L2.start N (.ref b :: vs)) (.bag :: frame (N.length - 1) ds) s := qt_of (by simp (disch := with_unfolding_all
  have no : ∀ (i : Nat) (xs : List PyData), (En.bag :: frame (N.length - 1) ds)[i]? ≠ some (En.own xs) := fun i xs h => by
    cases i with
    | zero => cases h
    | succ i => rcases frame_get h with ⟨d, _, e⟩ | ⟨_, e⟩ <;> cases e
  have zz : ∀ a, Zs W (some (b, c)) (fun _ => 0) (En.bag :: frame (N.length - 1) ds) a → W a ∨ InB (some (b, c)) a := by
    rintro a (z | ⟨i, xs, g, _⟩ | z)
    · exact .inl z
    · exact absurd g (no i xs)
    · exact .inr z
  have ln : (L2.start N (.ref b :: vs)).length = (En.bag :: frame (N.length - 1) ds).length := by
    rw [start_len, List.length_cons, List.length_cons, dpa_len hd]
    unfold frame
    rw [List.length_append, List.length_map, List.length_replicate]
    omega
  refine ⟨ln, fun i e h => ?_, fun i j xs ys g => absurd g (no i xs), fun i xs g => absurd g (no i xs), fun a o h _ => h, hB, hW⟩
  cases i with
  | zero =>
    cases h
    exact ⟨some (.ref b), rfl, b, c, rfl, rfl⟩
  | succ i =>
    rcases frame_get h with ⟨d, hi, rfl⟩ | ⟨hi, rfl⟩
    · obtain ⟨v, hv, dv⟩ := dpa_get hd hi
      exact ⟨some v, start_get (show (V.ref b :: vs)[i + 1]? = some v from hv), v, rfl, dp_mono (less_sub zz) dv⟩
    · have il : i + 1 < (L2.start N (.ref b :: vs)).length := by
        rw [ln]; exact (List.getElem?_eq_some_iff.mp h).1
      exact ⟨_, List.getElem?_eq_getElem il, trivial⟩
  ) only [↓qt_eq])
/-- a def that draws -/
theorem okB {x qual : Str} {st : Stmt} {f : Addr} {fd : FuncData} {N ps : List Str} {k : Nat} {P : Bag → List PyData → PyData → Bag → Prop} (F : Fun K x qual st f fd) (S : FnScope N ps (defScope st)) (hl : ∀ s ds r s', P s ds r s' → ds.length + 1 = ps.length)
    (hb : ∀ s ds r s', P s ds r s' → s.ok → ∀ (cdv : Value) (A : Around) (outer : List Env) (sh : Shared) (H : Hp) (E : XK), Room k (A.deeper (envOfC qual (defScope st) sh.heap.objs.size f cdv)) →
      ∃ t, PSs (cxOf CX0 Pg w K mg base N qual (defScope st) f cdv A outer sh H E).nox (defBody st) t ∧ SG K t (.bag :: frame (N.length - 1) ds) s (.rt r s')) : FnOk Pg w K mg base CX0 (k + 1) f fd ps (spB K P) := qt_of (by simp (disch := with_unfolding_all
  refine F.ok S (fun vs H Q E h => ?_) (fun cdv A outer sh H vs Q E hr h => ?_)
  · obtain ⟨W, b, c, us, s, ds, r, s', _, rfl, _, hd, hp, _⟩ := h
    rw [List.length_cons, dpa_len hd]
    exact hl s ds r s' hp
  · obtain ⟨W, b, c, us, s, ds, r, s', hW, rfl, hB, hd, hp, q⟩ := h
    obtain ⟨t, ht, g⟩ := hb s ds r s' hp hB.2.2 cdv A outer sh H E hr
    exact ⟨t, ht, g W (some (b, c)) (fun _ => 0) H H _ _ (staB hW hB hd) fun v H' e hb d => q v H' e hb d⟩
  ) only [↓qt_eq])
/-! ### the law itself: the script, the bag made of it, the rest -/
noncomputable def bag0 (ns : List Int) : Bag := ⟨ns, 0, 20011⟩
noncomputable def spBag (K : Fg) : Sp := fun vs H Q _ => ∃ (W : Addr → Prop) (ns : List Int), (∀ a, W a → ∃ o, H a = some o) ∧ DpAll K (less H W) vs [.list (ns.map PyData.int)] ∧ ns.length ≤ 63 ∧
  ∀ b c H', Ex H H' → H b = none → H c = none → BagAt H' (some (b, c)) (bag0 ns) → Q (.ref b) H'
noncomputable def PLaw : List PyData → PyData → Prop := fun ds r => ∃ ns : List Int, ds = [.list (ns.map PyData.int)] ∧ ns.length ≤ 63 ∧ r = .bool true
end
end U

end
section
namespace U
open PySem PyProof.Rows L2 Evl
/-! ### the mathematics of fractions -/
noncomputable abbrev Fr := Int × Int
noncomputable abbrev fr (p : Fr) : PyData := .tuple [.int p.1, .int p.2]
noncomputable def gN (a b : Int) : Nat := max (Nat.gcd a.natAbs b.natAbs) 1
noncomputable def gI (a b : Int) : Int := (gN a b : Int)
theorem gI_pos (a b : Int) : 0 < gI a b := by
  unfold gI gN
  have : 1 ≤ max (Nat.gcd a.natAbs b.natAbs) 1 := Nat.le_max_right _ _
  omega
/-- the states of Euclid's loop -/
noncomputable def eu (x y : Nat) : Nat → Nat × Nat
  | 0 => (x, y)
  | i + 1 => ((eu x y i).2, (eu x y i).1 % (eu x y i).2)
theorem eu_shift (x y : Nat) : ∀ i, eu x y (i + 1) = eu y (x % y) i
  | 0 => rfl
  | i + 1 => by
    show ((eu x y (i + 1)).2, (eu x y (i + 1)).1 % (eu x y (i + 1)).2) = _
    rw [eu_shift x y i]
    rfl
theorem eu_end : ∀ (y x : Nat), ∃ n, eu x y n = (Nat.gcd x y, 0) ∧ ∀ i, i < n → 0 < (eu x y i).2 := fun y => by
  induction y using Nat.strongRecOn with
  | ind y ih =>
    intro x
    by_cases hy : y = 0
    · subst hy
      exact ⟨0, by show (x, 0) = _; rw [Nat.gcd_zero_right], fun i hi => absurd hi (Nat.not_lt_zero _)⟩
    · obtain ⟨n, h1, h2⟩ := ih (x % y) (Nat.mod_lt _ (Nat.pos_of_ne_zero hy)) y
      refine ⟨n + 1, ?_, fun i hi => ?_⟩
      · rw [eu_shift, h1, Nat.gcd_comm x y, Nat.gcd_rec y x]
        rw [Nat.gcd_comm]
      · cases i with
        | zero => exact Nat.pos_of_ne_zero hy
        | succ i =>
          rw [eu_shift]
          exact h2 i (by omega)
theorem fmod_nat (a b : Nat) : Int.fmod (a : Int) (b : Int) = ((a % b : Nat) : Int) := by
  rw [Int.fmod_eq_emod_of_nonneg _ (Int.natCast_nonneg b)]
  rfl
theorem absI_nat (a : Int) : absI a = (a.natAbs : Int) := by
  unfold absI
  split <;> omega
noncomputable def Bd (n : Nat) (a : Int) : Prop := a.natAbs < 2 ^ n
noncomputable def Sz (n : Nat) (p : Fr) : Prop := Bd n p.1 ∧ Bd n p.2
theorem Bd.mono {n m : Nat} {a : Int} (h : Bd n a) (l : n ≤ m) : Bd m a := Nat.lt_of_lt_of_le h (Nat.pow_le_pow_right (by decide) l)
theorem Bd.cm {n m : Nat} {a b : Int} (ha : Bd n a) (hb : Bd m b) (h : n + m + 2 ≤ 1000000) : CMulW a b :=
  wide_mul (ha.mono (Nat.le_succ n)) (hb.mono (Nat.le_succ m)) (Nat.succ_pos _) (Nat.succ_pos _) (by omega)
theorem Bd.neg {n : Nat} {a : Int} (ha : Bd n a) : Bd n (-a) := by
  unfold Bd at *
  omega
theorem Bd.fdiv {n : Nat} {a : Int} (b : Int) (ha : Bd n a) : Bd n (a.fdiv b) := Nat.lt_of_le_of_lt (Int.natAbs_fdiv_le_natAbs a b) ha
theorem gN_le {n : Nat} {a b : Int} (ha : Bd n a) (hb : Bd n b) : gN a b ≤ 2 ^ n := qt_of (by simp (disch := with_unfolding_all
  unfold gN
  have h1 : 1 ≤ 2 ^ n := Nat.one_le_two_pow
  refine Nat.max_le.mpr ⟨?_, h1⟩
  by_cases h0 : a.natAbs = 0
  · rw [h0, Nat.gcd_zero_left]
    exact Nat.le_of_lt hb
  · exact Nat.le_trans (Nat.gcd_le_left _ (Nat.pos_of_ne_zero h0)) (Nat.le_of_lt ha)
  ) only [↓qt_eq])
theorem Bd.g {n : Nat} {a b : Int} (ha : Bd n a) (hb : Bd n b) : Bd (n + 1) (gI a b) := by
  have h := gN_le ha hb
  have h1 : 1 ≤ 2 ^ n := Nat.one_le_two_pow
  unfold Bd gI
  rw [Nat.pow_succ, Int.natAbs_natCast]
  omega
theorem Bd.dv {n : Nat} {i j : Int} (h0 : j ≠ 0) (h : Bd n j) (hn : n ≤ 8000) : CDvX i j := by
  refine ⟨h0, ?_⟩
  have h2 : j.natAbs < 2 ^ (n + 1) := h.mono (Nat.le_succ n)
  have := PySem.Flt.log2_lt_of (Nat.succ_pos n) h2
  omega
/-! ### gcd, the law's own and the program's -/
theorem max_gN (a b : Int) : maxI 1 (Nat.gcd a.natAbs b.natAbs : Nat) = gI a b := by
  unfold maxI gI gN
  rw [Nat.max_def]
  split <;> split <;> omega
theorem gN_max (a b : Int) : maxI (Nat.gcd a.natAbs b.natAbs : Nat) 1 = gI a b := by
  unfold maxI gI gN
  rw [Nat.max_def]
  split <;> split <;> omega
noncomputable def P_gcd : List PyData → PyData → Prop := fun ds r => ∃ a b : Int, ds = [.int a, .int b] ∧ r = .int (gI a b)
/-- above / below as the law makes it -/
noncomputable def fracF (a b : Int) : Fr := (a.fdiv (if b < 0 then -gI a b else gI a b), b.fdiv (if b < 0 then -gI a b else gI a b))
noncomputable def P_frac : List PyData → PyData → Prop := fun ds r => ∃ a b : Int, ds = [.int a, .int b] ∧ Bd 7990 a ∧ Bd 7990 b ∧ r = fr (fracF a b)
theorem Sz.frac {n : Nat} {a b : Int} (ha : Bd n a) (hb : Bd n b) : Sz n (fracF a b) := ⟨ha.fdiv _, hb.fdiv _⟩
section
variable {K : Fg} {G G' G1 G2 : Gam} {s s1 s2 s3 s' : Bag} {ta tb tc te : TE} {t u : TT} {x y z : PyData} {E : XK}
theorem ev_gcd {a b : Int} (h1 : EvG K ta G s (.int a) s1) (h2 : EvG K tb G s1 (.int b) s2) : EvG K (tCall (spP K P_gcd) [] E (tCons ta (tCons tb tNil))) G s (.int (gI a b)) s2 :=
  ev_call (ea_cons h1 (ea_cons h2 ea_nil)) (fun _ => .nil) ⟨a, b, rfl, rfl⟩
theorem ev_frac {a b : Int} (h1 : EvG K ta G s (.int a) s1) (h2 : EvG K tb G s1 (.int b) s2) (ha : Bd 4000 a) (hb : Bd 4000 b) : EvG K (tCall (spP K P_frac) [] E (tCons ta (tCons tb tNil))) G s (fr (fracF a b)) s2 :=
  ev_call (ea_cons h1 (ea_cons h2 ea_nil)) (fun _ => .nil) ⟨a, b, rfl, ha.mono (by decide), hb.mono (by decide), rfl⟩
end
theorem less_none {K : Fg} {H : Hp} {a : Addr} {xs : List V} (h : SqL K H a xs) : SqL K (less H fun _ => False) a xs := ex_l (fun a o h => less_of (fun z => z) h) h
theorem ev_ixDisp {K : Fg} {G : Gam} {s s1 s2 : Bag} {ta : TA} {tb : TE} {xs : List PyData} {x : PyData} {i : Int} (h : EvA K ta G s xs s1) (hl : xs.length ≤ 16000000) (hb : EvG K tb G s1 (.int i) s2) (he : atI xs i = some x) : EvG K (tOp (rIx K) (tLst ta) tb) G s x s2 := ev_ixL (ev_lst h hl) hb he
/-! ### draws -/
noncomputable def cellOf (s : Bag) : Int := if s.cs.length = 0 then 0 else s.cs.getD (s.i.fmod s.cs.length).toNat 0
noncomputable def pull (s : Bag) (n : Int) : Int × Bag :=
  if 0 < s.cs.length ∧ 1000000000000000000 ≤ absI (cellOf s) then ((cellOf s).fmod n, ⟨s.cs.set (s.i.fmod s.cs.length).toNat ((cellOf s).fdiv n), s.i, s.j⟩)
  else
    let j := (s.j * 48271 + (cellOf s).fmod 1000003 + (s.i + 1)).fmod 2147483647
    ((((j * 69621 + j.fdiv 65536).fmod 2147483629).fdiv 32).fmod n, ⟨s.cs, s.i + 1, j⟩)
noncomputable def pullV (s : Bag) (n : Int) : Int := (pull s n).1
noncomputable def pullS (s : Bag) (n : Int) : Bag := (pull s n).2
theorem fmod_range (a : Int) {n : Int} (h : 0 < n) : 0 ≤ a.fmod n ∧ a.fmod n < n := by
  rw [Int.fmod_eq_emod_of_nonneg _ (Int.le_of_lt h)]
  exact ⟨Int.emod_nonneg _ (by omega), Int.emod_lt_of_pos _ h⟩
theorem pullV_range (s : Bag) {n : Int} (h : 0 < n) : 0 ≤ pullV s n ∧ pullV s n < n := by
  unfold pullV pull
  split
  · exact fmod_range _ h
  · exact fmod_range _ h
theorem pullS_ok {s : Bag} (n : Int) (h : s.ok) : (pullS s n).ok := qt_of (by simp (disch := with_unfolding_all
  obtain ⟨h1, h2, h3⟩ := h
  unfold pullS pull
  split
  · exact ⟨by show (List.set _ _ _).length ≤ 63; rw [List.length_set]; exact h1, h2, h3⟩
  · have := fmod_range (s.j * 48271 + (cellOf s).fmod 1000003 + (s.i + 1)) (n := 2147483647) (by decide)
    exact ⟨h1, this.1, this.2⟩
  ) only [↓qt_eq])
noncomputable def P_pull : Bag → List PyData → PyData → Bag → Prop := fun s ds r s' => ∃ n : Int, ds = [.int n] ∧ 0 < n ∧ n < 1000000000000 ∧ r = .int (pullV s n) ∧ s' = pullS s n
section
variable {K : Fg} {G G' G1 G2 : Gam} {s s1 s2 s3 s' : Bag} {ta tb tc te : TE} {t u : TT} {x y z : PyData} {E : XK}
theorem ev_pull {i : Nat} {n : Int} (hi : G[i]? = some .bag) (h : EvG K ta G s (.int n) s1) (h0 : 0 < n) (h1 : n < 1000000000000) : EvG K (tCall (spB K P_pull) [] E (tCons (tVar i) (tCons ta tNil))) G s (.int (pullV s1 n)) (pullS s1 n) :=
  ev_callB hi (ea_cons h ea_nil) ⟨n, rfl, h0, h1, rfl, rfl⟩
end
/-! ### drawn numbers -/
noncomputable def menu (l : List Int) (i : Int) : Int := l.getD i.toNat 0
theorem menu_at {l : List Int} {i : Int} (h0 : 0 ≤ i) (h1 : i < l.length) : atI (l.map PyData.int) i = some (.int (menu l i)) := qt_of (by simp (disch := with_unfolding_all
  obtain ⟨j, rfl⟩ : ∃ j : Nat, i = (j : Int) := ⟨i.toNat, by omega⟩
  have hj : j < l.length := by omega
  refine atI_nat ?_
  unfold menu
  rw [List.getElem?_map, List.getElem?_eq_getElem hj, Int.toNat_natCast, List.getD_eq_getElem?_getD, List.getElem?_eq_getElem hj]
  rfl
  ) only [↓qt_eq])
theorem menu_mem {l : List Int} {i : Int} (h0 : 0 ≤ i) (h1 : i < l.length) : menu l i ∈ l := qt_of (by simp (disch := with_unfolding_all
  obtain ⟨j, rfl⟩ : ∃ j : Nat, i = (j : Int) := ⟨i.toNat, by omega⟩
  have hj : j < l.length := by omega
  unfold menu
  rw [Int.toNat_natCast, List.getD_eq_getElem?_getD, List.getElem?_eq_getElem hj]
  exact List.getElem_mem hj
  ) only [↓qt_eq])
noncomputable def partOf (s : Bag) : Fr := fracF (pullV s 13 - 6) (menu [1, 1, 2, 3] (pullV (pullS s 13) 4))
noncomputable def partS (s : Bag) : Bag := pullS (pullS s 13) 4
noncomputable def P_part : Bag → List PyData → PyData → Bag → Prop := fun s ds r s' => ds = [] ∧ r = fr (partOf s) ∧ s' = partS s
noncomputable def farOf (s : Bag) : Int := menu [0, 1, -1, 1000000000007, -1000000003, 2305843009213693952] (pullV s 6) + pullV (pullS s 6) 5 - 2
noncomputable def farS (s : Bag) : Bag := pullS (pullS s 6) 5
noncomputable def P_far : Bag → List PyData → PyData → Bag → Prop := fun s ds r s' => ds = [] ∧ r = .int (farOf s) ∧ s' = farS s
noncomputable def farPartOf (s : Bag) : Fr := fracF (farOf s) (1 + absI (farOf (farS s)))
noncomputable def farPartS (s : Bag) : Bag := farS (farS s)
noncomputable def P_farPart : Bag → List PyData → PyData → Bag → Prop := fun s ds r s' => ds = [] ∧ r = fr (farPartOf s) ∧ s' = farPartS s
theorem ev_b0 {K : Fg} {G : Gam} {s s' : Bag} {x : PyData} {E : XK} {i : Nat} {P : Bag → List PyData → PyData → Bag → Prop} (hi : G[i]? = some .bag) (hp : P s [] x s') : EvG K (tCall (spB K P) [] E (tCons (tVar i) tNil)) G s x s' := ev_callB hi ea_nil hp
theorem ev_far {K : Fg} {G : Gam} {s : Bag} {E : XK} {i : Nat} (hi : G[i]? = some .bag) : EvG K (tCall (spB K P_far) [] E (tCons (tVar i) tNil)) G s (.int (farOf s)) (farS s) := ev_b0 hi ⟨rfl, rfl, rfl⟩
theorem farOf_bd (s : Bag) : Bd 62 (farOf s) := qt_of (by simp (disch := with_unfolding_all
  obtain ⟨z1, z2⟩ := pullV_range s (n := 6) (by decide)
  obtain ⟨y1, y2⟩ := pullV_range (pullS s 6) (n := 5) (by decide)
  have hm := menu_mem (l := [0, 1, -1, 1000000000007, -1000000003, 2305843009213693952]) z1 z2
  unfold farOf
  generalize menu _ _ = m at hm
  generalize pullV (pullS s 6) 5 = y at *
  simp only [List.mem_cons, List.mem_singleton, List.not_mem_nil, or_false] at hm
  unfold Bd
  omega
  ) only [↓qt_eq])
theorem partOf_sz (s : Bag) : Sz 10 (partOf s) := qt_of (by simp (disch := with_unfolding_all
  obtain ⟨z1, z2⟩ := pullV_range s (n := 13) (by decide)
  obtain ⟨y1, y2⟩ := pullV_range (pullS s 13) (n := 4) (by decide)
  have hm := menu_mem (l := [1, 1, 2, 3]) y1 y2
  unfold partOf
  generalize menu _ _ = m at hm
  generalize pullV s 13 = y at *
  simp only [List.mem_cons, List.mem_singleton, List.not_mem_nil, or_false] at hm
  refine Sz.frac ?_ ?_
  · unfold Bd; omega
  · unfold Bd; omega
  ) only [↓qt_eq])
theorem farPartOf_sz (s : Bag) : Sz 63 (farPartOf s) := qt_of (by simp (disch := with_unfolding_all
  have h1 := farOf_bd s
  have h2 := farOf_bd (farS s)
  unfold farPartOf
  generalize farOf s = x at *
  generalize farOf (farS s) = y at *
  refine Sz.frac (h1.mono (by decide)) ?_
  unfold Bd absI at *
  split <;> omega
  ) only [↓qt_eq])
theorem partS_ok {s : Bag} (h : s.ok) : (partS s).ok := pullS_ok _ (pullS_ok _ h)
theorem farS_ok {s : Bag} (h : s.ok) : (farS s).ok := pullS_ok _ (pullS_ok _ h)
theorem farPartS_ok {s : Bag} (h : s.ok) : (farPartS s).ok := farS_ok (farS_ok h)
/-! ### alike: what is asked of a thing and itself -/
mutual
noncomputable def okD : Nat → PyData → Bool
  | _, .none => true
  | _, .bool _ => true
  | _, .int _ => true
  | _, .str _ => true
  | 0, .list _ => false
  | 0, .tuple _ => false
  | n + 1, .list xs => decide (xs.length ≤ 1000000) && okAll n xs
  | n + 1, .tuple xs => decide (xs.length ≤ 1000000) && okAll n xs
  | _, .dict _ => false
noncomputable def okAll : Nat → List PyData → Bool
  | _, [] => true
  | n, x :: xs => okD n x && okAll n xs
end
theorem okAll_get : ∀ {n : Nat} {xs : List PyData} {i : Nat} {x : PyData}, okAll n xs = true → xs[i]? = some x → okD n x = true
  | _, [], _, _, _, h => by simp at h
  | n, y :: xs, 0, x, h, e => by
    have e := Option.some.inj e
    subst e
    unfold okAll at h
    exact (Bool.and_eq_true_iff.mp h).1
  | n, y :: xs, i + 1, x, h, e => by
    unfold okAll at h
    exact okAll_get (i := i) (Bool.and_eq_true_iff.mp h).2 e
noncomputable def P_like : Nat → List PyData → PyData → Prop
  | 0 => fun _ _ => False
  | n + 1 => fun ds r => ∃ x : PyData, ds = [x, x] ∧ okD n x = true ∧ r = .bool true
section
variable {K : Fg} {G G' G1 G2 : Gam} {s s1 s2 s3 s' : Bag} {ta tb tc te : TE} {t u : TT} {x y z : PyData} {E : XK}
theorem ev_like {n : Nat} (h1 : EvG K ta G s x s1) (h2 : EvG K tb G s1 y s2) (e : x = y) (hx : okD n y = true) : EvG K (tCall (spP K (P_like (n + 1))) [] E (tCons ta (tCons tb tNil))) G s (.bool true) s2 := by
  subst e
  exact ev_call (ea_cons h1 (ea_cons h2 ea_nil)) (fun _ => .nil) ⟨x, rfl, hx, rfl⟩
end
end U

end
section
namespace U
open PySem PyProof.Rows L2 Evl
/-! what plain data are -/
theorem okAll_of {n : Nat} : ∀ {xs : List PyData}, (∀ x ∈ xs, okD n x = true) → okAll n xs = true
  | [], _ => rfl
  | x :: xs, h => by
    unfold okAll
    rw [h x (List.mem_cons_self ..), okAll_of fun y hy => h y (List.mem_cons_of_mem _ hy)]
    rfl
theorem okD_list {n : Nat} {xs : List PyData} (hl : xs.length ≤ 1000000) (h : ∀ x ∈ xs, okD n x = true) : okD (n + 1) (.list xs) = true := by
  unfold okD
  rw [decide_eq_true hl, okAll_of h]
  rfl
theorem okD_tup {n : Nat} {xs : List PyData} (hl : xs.length ≤ 1000000) (h : ∀ x ∈ xs, okD n x = true) : okD (n + 1) (.tuple xs) = true := by
  unfold okD
  rw [decide_eq_true hl, okAll_of h]
  rfl
end U

end
section
namespace U
open PySem PyProof.Rows L2 Evl
section
variable {X : Cx}
end
section
variable {K : Fg} {G G1 G2 : Gam} {s s1 s2 s3 s' : Bag} {ta tb tc te : TE} {t u : TT} {x y z : PyData}
end
end U

end
section
namespace U
open PySem PyProof.Rows L2 Evl
section
variable {K : Fg} {G G1 G2 : Gam} {s s1 s2 s3 s' : Bag} {ta tb tc te : TE} {t u : TT} {x y z : PyData}
/-! ### in, not in: whole numbers -/
/-! ### zip -/
/-! ### a comprehension that draws -/
end
end U

end
section
namespace U
open PySem PyProof.Rows L2 Evl
local macro_rules | `(tactic| walk_at "ev1") => `(tactic| first
  | exact ev_int | exact ev_bl | exact ev_str | exact ev_non | exact ev_var rfl | exact ea_nil | exact eo_none
  | with_reducible apply ev_ixDisp | with_reducible apply ev_fst | with_reducible apply ev_snd
  | with_reducible apply ev_add | with_reducible apply ev_sub | with_reducible apply ev_mul | with_reducible apply ev_fdiv | with_reducible apply ev_mod | with_reducible apply ev_pow
  | with_reducible apply ev_lt | with_reducible apply ev_le | with_reducible apply ev_gt | with_reducible apply ev_ge
  | with_reducible apply ev_eqI | with_reducible apply ev_neI
  | with_reducible apply ev_neg | with_reducible apply ev_subB | with_reducible apply ev_isNo | with_reducible apply ev_noNo
  | with_reducible apply ev_not | with_reducible apply et_test | with_reducible apply et_B | with_reducible apply et_not
  | with_reducible apply ev_abs | with_reducible apply ev_max | with_reducible apply ev_min | with_reducible apply ev_intB
  | with_reducible apply ev_gcd | with_reducible apply ev_frac | with_reducible apply ev_fadd | with_reducible apply ev_sign | with_reducible apply ev_cmpF
  | with_reducible apply ev_pull rfl
  | with_reducible apply ev_like
  | with_reducible apply ev_tup | with_reducible apply ev_lst | with_reducible apply ea_cons | with_reducible apply eo_some
  | with_reducible apply ev_order | exact ev_part rfl | exact ev_far rfl | exact ev_farPart rfl
  | (with_reducible show List.length _ ≤ 16000000; (simp; done)) | (with_reducible show (0 : Int) < _; decide) | (with_reducible show (_ : Int) < 1000000000000; decide) | (with_reducible show CPow _ _; (unfold CPow; decide)) | (with_reducible show CNz _ _; (unfold CNz; decide))
  | with_reducible apply sg_ret | with_reducible apply sg_asg | with_reducible apply sg_next)
local macro_rules | `(tactic| walk_at "ln") => `(tactic| first | walk_at "ev1" | with_reducible apply sg_seq)
section

section
variable {K : Fg}
-- slots of order: 0 one, 1 other, 2 gap
noncomputable def t__law_gcd (K : Fg) : TS := (tSeq (tAsg (tCB rAbs (tCons (tVar 0) tNil)) (gName 0))
  (tSeq (tAsg (tCB rAbs (tCons (tVar 1) tNil)) (gName 1))
  (tSeq (tWhile (tTest (tOp (rI0 fun i j => V.bl (decide (j < i))) (tVar 1) (tC (V.int 0)))) (tSeq (tAsg (tVar 1) (gName 2))
  (tSeq (tAsg (tOp (rI CNz fun i j => V.int (i.fmod j)) (tVar 0) (tVar 1)) (gName 1))
  (tAsg (tVar 2) (gName 0)))))
  (tRet (tCB rMx (tCons (tC (V.int 1)) (tCons (tVar 0) tNil)))))))
-- slots of _law_gcd: 0 _law_one, 1 _law_other, 2 _law_kept
theorem ln__law_gcd : ∀ ds r, P_gcd ds r → ds.length = 2 := fun ds r h => by obtain ⟨p, q, rfl, _⟩ := h; rfl
theorem rd__law_gcd {ds r} (h : P_gcd ds r) (b : Bag) : SG K (t__law_gcd K) (frame 3 ds) b (.rt r b) := qt_of (by simp (disch := with_unfolding_all
  obtain ⟨x, y, rfl, rfl⟩ := h
  unfold t__law_gcd
  obtain ⟨n, h1, h2⟩ := eu_end y.natAbs x.natAbs
  apply sg_is
  apply sg_seq
  (repeat' walk_at "ev1")
  apply sg_seq
  (repeat' walk_at "ev1")
  apply sg_seq
  · refine sg_while (s' := b) (fun i => [.d (.int (eu x.natAbs y.natAbs i).1), .d (.int (eu x.natAbs y.natAbs i).2), .un]) (fun _ => b) (fun _ => b) n ?_ rfl (fun i hi => ?_) (fun i hi => .inl ?_) ?_
    · show Wk [.d (.int (absI x)), .d (.int (absI y)), .un] _
      rw [absI_nat, absI_nat]
      exact .refl _
    · refine et_is (by (repeat' walk_at "ev1")) ?_
      have := h2 i hi
      simp; omega
    · have hy := h2 i hi
      refine sg_wk (G1 := [.d (.int (eu x.natAbs y.natAbs (i + 1)).1), .d (.int (eu x.natAbs y.natAbs (i + 1)).2), .d (.int (eu x.natAbs y.natAbs i).2)]) ?_ (.cons (.cons (.drop .nil)))
      apply sg_is
      (repeat' walk_at "ln")
      · show ((eu x.natAbs y.natAbs i).2 : Int) ≠ 0
        omega
      · rw [fmod_nat]
        rfl
    · refine et_is (by (repeat' walk_at "ev1")) ?_
      rw [h1]
      rfl
  · rw [h1]
    (repeat' walk_at "ev1")
  · show Out.rt (.int (maxI 1 _)) b = _
    rw [max_gN]
  ) only [↓qt_eq])
noncomputable def t__law_frac (K : Fg) : TS := (tSeq (tAsg (tCall (spP K P_gcd) [] E0 (tCons (tVar 0) (tCons (tVar 1) tNil))) (gName 2))
  (tSeq (tIfS (tTest (tOp (rI0 fun i j => V.bl (decide (i < j))) (tVar 1) (tC (V.int 0)))) (tAsg (tUn (rU fun i => V.int (-i)) (tVar 2)) (gName 2)) tNext)
  (tRet (tTup (tCons (tOp (rI CDvX fun i j => V.int (i.fdiv j)) (tVar 0) (tVar 2)) (tCons (tOp (rI CDvX fun i j => V.int (i.fdiv j)) (tVar 1) (tVar 2)) tNil))))))
-- slots of _law_frac: 0 _law_above, 1 _law_below, 2 _law_divisor
theorem ln__law_frac : ∀ ds r, P_frac ds r → ds.length = 2 := fun ds r h => by obtain ⟨p, q, rfl, _⟩ := h; rfl
theorem rd__law_frac {ds r} (h : P_frac ds r) (b : Bag) : SG K (t__law_frac K) (frame 3 ds) b (.rt r b) := qt_of (by simp (disch := with_unfolding_all
  obtain ⟨x, y, rfl, hx, hy, rfl⟩ := h
  unfold t__law_frac
  have hg := gI_pos x y
  have hb : Bd 7991 (gI x y) := Bd.g hx hy
  apply sg_seq
  (repeat' walk_at "ev1")
  apply sg_when
  (repeat' walk_at "ev1")
  · intro h
    have h := of_decide_eq_true h
    apply sg_is
    (repeat' walk_at "ln")
    · exact Bd.dv (by omega) hb.neg (by decide)
    · exact Bd.dv (by omega) hb.neg (by decide)
    · show Out.rt (fr (x.fdiv (-gI x y), y.fdiv (-gI x y))) b = Out.rt (fr (fracF x y)) b
      unfold fracF
      rw [if_pos h]
  · intro h
    have h := of_decide_eq_false h
    apply sg_is
    (repeat' walk_at "ln")
    · exact Bd.dv (by omega) hb (by decide)
    · exact Bd.dv (by omega) hb (by decide)
    · show Out.rt (fr (x.fdiv (gI x y), y.fdiv (gI x y))) b = Out.rt (fr (fracF x y)) b
      unfold fracF
      rw [if_neg h]
  ) only [↓qt_eq])
-- slots of _law_add: 0 _law_one, 1 _law_other
-- slots of _law_sign: 0 _law_number
-- slots of _law_cmp: 0 _law_one, 1 _law_other
noncomputable def t__law_part (K : Fg) : TS := (tRet (tCall (spP K P_frac) [] E0 (tCons (tOp (rI0 fun i j => V.int (i - j)) (tCall (spB K P_pull) [] E0 (tCons (tVar 0) (tCons (tC (V.int 13)) tNil))) (tC (V.int 6))) (tCons (tOp (rIx K) (tLst (tCons (tC (V.int 1)) (tCons (tC (V.int 1)) (tCons (tC (V.int 2)) (tCons (tC (V.int 3)) tNil))))) (tCall (spB K P_pull) [] E0 (tCons (tVar 0) (tCons (tC (V.int 4)) tNil)))) tNil))))
-- slots of _law_part: 0 _law_bag_here
theorem ln__law_part : ∀ s ds r s', P_part s ds r s' → ds.length + 1 = 1 := fun s ds r s' h => by obtain ⟨rfl, _⟩ := h; rfl
theorem rd__law_part {s ds r s'} (h : P_part s ds r s') (ok : s.ok) : SG K (t__law_part K) (.bag :: frame 0 ds) s (.rt r s') := qt_of (by simp (disch := with_unfolding_all
  obtain ⟨rfl, rfl, rfl⟩ := h
  unfold t__law_part
  obtain ⟨z1, z2⟩ := pullV_range s (n := 13) (by decide)
  obtain ⟨y1, y2⟩ := pullV_range (pullS s 13) (n := 4) (by decide)
  have hm := menu_mem (l := [1, 1, 2, 3]) y1 y2
  apply sg_is
  (repeat' walk_at "ln")
  all_goals first | exact menu_at (l := [1, 1, 2, 3]) y1 y2 | skip
  · unfold Bd; omega
  · refine Bd.mono (n := 10) ?_ (by decide)
    generalize menu _ _ = m at hm
    simp only [List.mem_cons, List.not_mem_nil, or_false] at hm
    unfold Bd; omega
  · rfl
  ) only [↓qt_eq])
noncomputable def t__law_far (K : Fg) : TS := (tRet (tOp (rI0 fun i j => V.int (i - j)) (tOp (rI0 fun i j => V.int (i + j)) (tOp (rIx K) (tLst (tCons (tC (V.int 0)) (tCons (tC (V.int 1)) (tCons (tUn (rU fun i => V.int (-i)) (tC (V.int 1))) (tCons (tOp (rI0 fun i j => V.int (i + j)) (tOp (rI CPow fun i j => V.int (i ^ j.toNat)) (tC (V.int 10)) (tC (V.int 12))) (tC (V.int 7))) (tCons (tOp (rI0 fun i j => V.int (i - j)) (tUn (rU fun i => V.int (-i)) (tOp (rI CPow fun i j => V.int (i ^ j.toNat)) (tC (V.int 10)) (tC (V.int 9)))) (tC (V.int 3))) (tCons (tOp (rI CPow fun i j => V.int (i ^ j.toNat)) (tC (V.int 2)) (tC (V.int 61))) tNil))))))) (tCall (spB K P_pull) [] E0 (tCons (tVar 0) (tCons (tC (V.int 6)) tNil)))) (tCall (spB K P_pull) [] E0 (tCons (tVar 0) (tCons (tC (V.int 5)) tNil)))) (tC (V.int 2))))
-- slots of _law_far: 0 _law_bag_here
theorem ln__law_far : ∀ s ds r s', P_far s ds r s' → ds.length + 1 = 1 := fun s ds r s' h => by obtain ⟨rfl, _⟩ := h; rfl
theorem rd__law_far {s ds r s'} (h : P_far s ds r s') (ok : s.ok) : SG K (t__law_far K) (.bag :: frame 0 ds) s (.rt r s') := qt_of (by simp (disch := with_unfolding_all
  obtain ⟨rfl, rfl, rfl⟩ := h
  unfold t__law_far
  obtain ⟨z1, z2⟩ := pullV_range s (n := 6) (by decide)
  apply sg_is
  (repeat' walk_at "ln")
  all_goals first | exact menu_at (l := [0, 1, -1, 1000000000007, -1000000003, 2305843009213693952]) z1 z2 | rfl
  ) only [↓qt_eq])
noncomputable def t__law_far_part (K : Fg) : TS := (tRet (tCall (spP K P_frac) [] E0 (tCons (tCall (spB K P_far) [] E0 (tCons (tVar 0) tNil)) (tCons (tOp (rI0 fun i j => V.int (i + j)) (tC (V.int 1)) (tCB rAbs (tCons (tCall (spB K P_far) [] E0 (tCons (tVar 0) tNil)) tNil))) tNil))))
-- slots of _law_far_part: 0 _law_bag_here
theorem ln__law_far_part : ∀ s ds r s', P_farPart s ds r s' → ds.length + 1 = 1 := fun s ds r s' h => by obtain ⟨rfl, _⟩ := h; rfl
theorem rd__law_far_part {s ds r s'} (h : P_farPart s ds r s') (ok : s.ok) : SG K (t__law_far_part K) (.bag :: frame 0 ds) s (.rt r s') := qt_of (by simp (disch := with_unfolding_all
  obtain ⟨rfl, rfl, rfl⟩ := h
  unfold t__law_far_part
  have h1 := farOf_bd s
  have h2 := farOf_bd (farS s)
  apply sg_is
  (repeat' walk_at "ln")
  · exact h1.mono (by decide)
  · refine Bd.mono (n := 63) ?_ (by decide)
    generalize farOf (farS s) = y at *
    unfold Bd absI at *
    split <;> omega
  · rfl
  ) only [↓qt_eq])
noncomputable def t__law_pull (K : Fg) : TS := (tSeq (tAsg (tOp (rIx K) (tVar 0) (tC (V.int 0))) (gName 2))
  (tSeq (tAsg (tC (V.int 0)) (gName 3))
  (tSeq (tIfS (tTest (tOp (rI0 fun i j => V.bl (decide (j < i))) (tCB (rLenQ K) (tCons (tVar 2) tNil)) (tC (V.int 0)))) (tSeq (tAsg (tOp (rI CNz fun i j => V.int (i.fmod j)) (tOp (rIx K) (tVar 0) (tC (V.int 1))) (tCB (rLenQ K) (tCons (tVar 2) tNil))) (gName 4))
  (tSeq (tAsg (tOp (rIx K) (tVar 2) (tVar 4)) (gName 3))
  (tIfS (tTest (tOp (rI0 fun i j => V.bl (decide (j ≤ i))) (tCB rAbs (tCons (tVar 3) tNil)) (tOp (rI CPow fun i j => V.int (i ^ j.toNat)) (tC (V.int 10)) (tC (V.int 18))))) (tSeq (tAsg (tOp (rI CDvX fun i j => V.int (i.fdiv j)) (tVar 3) (tVar 1)) (gSub (tVar 2) (tVar 4) rSetL))
  (tRet (tOp (rI CNz fun i j => V.int (i.fmod j)) (tVar 3) (tVar 1)))) tNext))) tNext)
  (tSeq (tAsg (tOp (rI0 fun i j => V.int (i + j)) (tOp (rIx K) (tVar 0) (tC (V.int 1))) (tC (V.int 1))) (gSub (tVar 0) (tC (V.int 1)) rSetL))
  (tSeq (tAsg (tOp (rI CNz fun i j => V.int (i.fmod j)) (tOp (rI0 fun i j => V.int (i + j)) (tOp (rI0 fun i j => V.int (i + j)) (tOp (rI CMulW fun i j => V.int (i * j)) (tOp (rIx K) (tVar 0) (tC (V.int 2))) (tC (V.int 48271))) (tOp (rI CNz fun i j => V.int (i.fmod j)) (tVar 3) (tC (V.int 1000003)))) (tOp (rIx K) (tVar 0) (tC (V.int 1)))) (tC (V.int 2147483647))) (gSub (tVar 0) (tC (V.int 2)) rSetL))
  (tRet (tOp (rI CNz fun i j => V.int (i.fmod j)) (tOp (rI CDvX fun i j => V.int (i.fdiv j)) (tOp (rI CNz fun i j => V.int (i.fmod j)) (tOp (rI0 fun i j => V.int (i + j)) (tOp (rI CMulW fun i j => V.int (i * j)) (tOp (rIx K) (tVar 0) (tC (V.int 2))) (tC (V.int 69621))) (tOp (rI CDvX fun i j => V.int (i.fdiv j)) (tOp (rIx K) (tVar 0) (tC (V.int 2))) (tC (V.int 65536)))) (tC (V.int 2147483629))) (tC (V.int 32))) (tVar 1))))))))
-- slots of _law_pull: 0 _law_bag_here, 1 _law_size, 2 _law_cells, 3 _law_cell, 4 _law_spot
theorem ln__law_pull : ∀ s ds r s', P_pull s ds r s' → ds.length + 1 = 2 := fun s ds r s' h => by obtain ⟨n, rfl, _⟩ := h; rfl
theorem bag_ne {H : Hp} {b c : Addr} {s : Bag} (h : BagAt H (some (b, c)) s) : b ≠ c := fun e => by
  have h1 := h.1
  have h2 := h.2.1
  rw [e, h2] at h1
  have h3 := HO.lst.inj (Option.some.inj h1)
  cases hc : s.cs with
  | nil => rw [hc] at h3; cases h3
  | cons x r => rw [hc] at h3; cases h3
theorem rd_pullTail {D : Ends} {H : Hp} {b c : Addr} {s : Bag} {cell n : Int} {x4 : Option V} (hB : BagAt H (some (b, c)) s) (h0 : 0 < n)
    (q : ∀ H', (∀ a o, H a = some o → ¬ InB (some (b, c)) a → H' a = some o) → BagAt H' (some (b, c)) ⟨s.cs, s.i + 1, (s.j * 48271 + cell.fmod 1000003 + (s.i + 1)).fmod 2147483647⟩ →
      D.rt (.int (((((s.j * 48271 + cell.fmod 1000003 + (s.i + 1)).fmod 2147483647) * 69621 + ((s.j * 48271 + cell.fmod 1000003 + (s.i + 1)).fmod 2147483647).fdiv 65536).fmod 2147483629).fdiv 32 |>.fmod n)) H') :
    (tSeq (tAsg (tOp (rI0 fun i j => V.int (i + j)) (tOp (rIx K) (tVar 0) (tC (V.int 1))) (tC (V.int 1))) (gSub (tVar 0) (tC (V.int 1)) rSetL))
  (tSeq (tAsg (tOp (rI CNz fun i j => V.int (i.fmod j)) (tOp (rI0 fun i j => V.int (i + j)) (tOp (rI0 fun i j => V.int (i + j)) (tOp (rI CMulW fun i j => V.int (i * j)) (tOp (rIx K) (tVar 0) (tC (V.int 2))) (tC (V.int 48271))) (tOp (rI CNz fun i j => V.int (i.fmod j)) (tVar 3) (tC (V.int 1000003)))) (tOp (rIx K) (tVar 0) (tC (V.int 1)))) (tC (V.int 2147483647))) (gSub (tVar 0) (tC (V.int 2)) rSetL))
  (tRet (tOp (rI CNz fun i j => V.int (i.fmod j)) (tOp (rI CDvX fun i j => V.int (i.fdiv j)) (tOp (rI CNz fun i j => V.int (i.fmod j)) (tOp (rI0 fun i j => V.int (i + j)) (tOp (rI CMulW fun i j => V.int (i * j)) (tOp (rIx K) (tVar 0) (tC (V.int 2))) (tC (V.int 69621))) (tOp (rI CDvX fun i j => V.int (i.fdiv j)) (tOp (rIx K) (tVar 0) (tC (V.int 2))) (tC (V.int 65536)))) (tC (V.int 2147483629))) (tC (V.int 32))) (tVar 1))))) D
    [some (.ref b), some (.int n), some (.ref c), some (.int cell), x4] H := qt_of (by simp (disch := with_unfolding_all
  obtain ⟨hb, hc, h1, h2, h3⟩ := id hB
  have nbc : b ≠ c := bag_ne hB
  have mulj : ∀ {x y : Int}, 0 ≤ x → x < 2147483647 → Bd 40 y → CMulW x y := fun {x y} a b c => Bd.cm (n := 31) (m := 40) (by unfold Bd; omega) c (by decide)
  generalize hj : (s.j * 48271 + cell.fmod 1000003 + (s.i + 1)).fmod 2147483647 = j at q
  have hjr : 0 ≤ j ∧ j < 2147483647 := by rw [← hj]; exact fmod_range _ (by decide)
  -- bag[1] = bag[1] + 1
  refine ⟨_, rfl, .inl ⟨b, _, 1, .int s.i, rfl, rfl, sq_of hb, rfl, _, _, rfl, rfl, _, rfl, b, _, 1, 1, rfl, rfl, hb, rfl, ?_⟩⟩
  -- bag[2] = ..
  refine ⟨_, rfl, .inl ⟨b, _, 2, .int s.j, rfl, rfl, sq_of upd_same, rfl, _, _, rfl, rfl, mulj h2 h3 (by unfold Bd; decide), _, rfl, _, _, rfl, rfl, (by show (1000003 : Int) ≠ 0; decide), _, _, rfl, rfl, _, rfl, .inl ⟨b, _, 1, .int (s.i + 1), rfl, rfl, sq_of upd_same, rfl, _, _, rfl, rfl, _, _, rfl, rfl, (by show (2147483647 : Int) ≠ 0; decide), _, rfl, b, _, 2, 2, rfl, rfl, upd_same, rfl, ?_⟩⟩⟩
  dsimp only
  rw [hj]
  -- return
  refine ⟨_, rfl, .inl ⟨b, _, 2, .int j, rfl, rfl, sq_of upd_same, rfl, _, _, rfl, rfl, mulj hjr.1 hjr.2 (by unfold Bd; decide), _, rfl, .inl ⟨b, _, 2, .int j, rfl, rfl, sq_of upd_same, rfl, _, _, rfl, rfl, ⟨by decide, by decide⟩, _, _, rfl, rfl, _, _, rfl, rfl, (by show (2147483629 : Int) ≠ 0; decide), _, _, rfl, rfl, ⟨by decide, by decide⟩, _, rfl, _, _, rfl, rfl, ?_, ?_⟩⟩⟩
  · show n ≠ 0
    omega
  · refine q _ (fun a o h z => ?_) ⟨upd_same, ?_, h1, hjr.1, hjr.2⟩
    · have na : a ≠ b := fun e => z ⟨b, c, rfl, .inl e⟩
      rw [upd_ne na, upd_ne na]; exact h
    · rw [upd_ne nbc.symm, upd_ne nbc.symm]; exact hc
  ) only [↓qt_eq])
theorem rd__law_pull {D : Ends} {W : Addr → Prop} {H : Hp} {b c : Addr} {s : Bag} {n : Int} (hB : BagAt H (some (b, c)) s) (h0 : 0 < n) (h1 : n < 1000000000000)
    (q : ∀ (v : V) (H' : Hp), (∀ (a : Addr) (o : HO), H a = some o → ¬InB (some (b, c)) a → H' a = some o) → BagAt H' (some (b, c)) (pullS s n) → Dp K (less H' fun a => W a ∨ InB (some (b, c)) a) v (PyData.int (pullV s n)) → D.rt v H') :
    t__law_pull K D [some (.ref b), some (.int n), none, none, none] H := qt_of (by simp (disch := with_unfolding_all
  obtain ⟨hb, hc, k1, k2, k3⟩ := id hB
  have nbc : b ≠ c := bag_ne hB
  unfold t__law_pull
  refine ⟨_, rfl, .inl ⟨b, _, 0, .ref c, rfl, rfl, sq_of hb, rfl, ?_⟩⟩
  have lc : SqL K H c (s.cs.map V.int) := sq_of hc
  refine ⟨_, rfl, c, _, rfl, .inl lc, _, _, rfl, rfl, _, rfl, ?_⟩
  rw [List.length_map]
  refine ite2 (fun h => ?_) (fun h => ?_)
  · have hl : 0 < s.cs.length := by have := of_decide_eq_true h; omega
    have hsp := fmod_range s.i (n := (s.cs.length : Int)) (by omega)
    obtain ⟨k, hk⟩ : ∃ k : Nat, s.i.fmod s.cs.length = (k : Int) := ⟨(s.i.fmod s.cs.length).toNat, by omega⟩
    have kl : k < s.cs.length := by omega
    have gk : (s.cs.map V.int)[k]? = some (.int s.cs[k]) := by rw [List.getElem?_map, List.getElem?_eq_getElem kl]; rfl
    have ec : cellOf s = s.cs[k] := by
      unfold cellOf
      rw [if_neg (by omega), hk, Int.toNat_natCast, List.getD_eq_getElem?_getD, List.getElem?_eq_getElem kl]
      rfl
    refine ⟨_, rfl, .inl ⟨b, _, 1, .int s.i, rfl, rfl, sq_of hb, rfl, _, rfl, c, _, rfl, .inl lc, _, _, rfl, rfl, ?_, ?_⟩⟩
    · show ((s.cs.map V.int).length : Int) ≠ 0
      rw [List.length_map]; omega
    rw [List.length_map]
    dsimp only
    rw [hk]
    refine ⟨_, rfl, _, rfl, .inl ⟨c, _, (k : Int), _, rfl, rfl, lc, atI_nat gk, ?_⟩⟩
    refine ⟨_, rfl, _, rfl, _, _, rfl, rfl, (by unfold CPow; decide), _, _, rfl, rfl, _, rfl, ?_⟩
    have e18 : (10 : Int) ^ (18 : Int).toNat = 1000000000000000000 := by decide
    rw [e18]
    refine ite2 (fun h2 => ?_) (fun h2 => ?_)
    · have hbig : 1000000000000000000 ≤ absI (cellOf s) := by
        rw [ec]; exact of_decide_eq_true h2
      have ep : pull s n = ((cellOf s).fmod n, ⟨s.cs.set k ((cellOf s).fdiv n), s.i, s.j⟩) := by
        unfold pull
        rw [if_pos ⟨hl, hbig⟩, hk, Int.toNat_natCast]
      refine ⟨_, rfl, _, rfl, _, _, rfl, rfl, ⟨by omega, ?_⟩, _, rfl, _, rfl, c, _, (k : Int), k, rfl, rfl, hc, ?_, ?_⟩
      · have : n.natAbs < 2 ^ 40 := by omega
        have := PySem.Flt.log2_lt_of (by decide) this
        omega
      · exact ixN_nat (by rw [List.length_map]; exact kl)
      · refine ⟨_, rfl, _, rfl, _, _, rfl, rfl, (by show n ≠ 0; omega), ?_⟩
        refine q _ _ (fun a o h z => ?_) ?_ ?_
        · rw [upd_ne (fun e => z ⟨b, c, rfl, .inr e⟩)]; exact h
        · unfold pullS
          rw [ep]
          refine ⟨by rw [upd_ne nbc]; exact hb, ?_, by rw [List.length_set]; exact k1, k2, k3⟩
          rw [upd_same, List.map_set, ec]
        · unfold pullV
          rw [ep, ec]
          exact .int _
    · have hbig : ¬ 1000000000000000000 ≤ absI (cellOf s) := fun z => h2 (decide_eq_true (by rw [ec] at z; exact z))
      refine rd_pullTail hB h0 fun H' e hB' => ?_
      have ep : pull s n = (((((s.j * 48271 + (cellOf s).fmod 1000003 + (s.i + 1)).fmod 2147483647) * 69621 + ((s.j * 48271 + (cellOf s).fmod 1000003 + (s.i + 1)).fmod 2147483647).fdiv 65536).fmod 2147483629).fdiv 32 |>.fmod n, ⟨s.cs, s.i + 1, (s.j * 48271 + (cellOf s).fmod 1000003 + (s.i + 1)).fmod 2147483647⟩) := by
        unfold pull
        rw [if_neg (fun z => hbig z.2)]
      refine q _ _ e ?_ ?_
      · unfold pullS
        rw [ep, ec]; exact hB'
      · unfold pullV
        rw [ep, ec]; exact .int _
  · have hl : s.cs.length = 0 := by
      have := of_decide_eq_false (eq_false_of_ne_true h)
      omega
    have ec : cellOf s = 0 := by unfold cellOf; rw [if_pos hl]
    refine rd_pullTail hB h0 fun H' e hB' => ?_
    have ep : pull s n = (((((s.j * 48271 + (cellOf s).fmod 1000003 + (s.i + 1)).fmod 2147483647) * 69621 + ((s.j * 48271 + (cellOf s).fmod 1000003 + (s.i + 1)).fmod 2147483647).fdiv 65536).fmod 2147483629).fdiv 32 |>.fmod n, ⟨s.cs, s.i + 1, (s.j * 48271 + (cellOf s).fmod 1000003 + (s.i + 1)).fmod 2147483647⟩) := by
      unfold pull
      rw [if_neg (fun z => by omega)]
    refine q _ _ e ?_ ?_
    · unfold pullS
      rw [ep, ec]; exact hB'
    · unfold pullV
      rw [ep, ec]; exact .int _
  ) only [↓qt_eq])
end

end
end U
end
section
namespace U
open PySem PyProof.Rows L2 Evl
theorem kit_NoneType_bool : kitB "NoneType" "bool" = some false := by decide +kernel
theorem kit_NoneType_int : kitB "NoneType" "int" = some false := by decide +kernel
theorem kit_NoneType_str : kitB "NoneType" "str" = some false := by decide +kernel
theorem kit_NoneType_list : kitB "NoneType" "list" = some false := by decide +kernel
theorem kit_NoneType_tuple : kitB "NoneType" "tuple" = some false := by decide +kernel
theorem kit_bool_bool : kitB "bool" "bool" = some true := by decide +kernel
theorem kit_bool_list : kitB "bool" "list" = some false := by decide +kernel
theorem kit_bool_tuple : kitB "bool" "tuple" = some false := by decide +kernel
theorem kit_int_bool : kitB "int" "bool" = some false := by decide +kernel
theorem kit_int_int : kitB "int" "int" = some true := by decide +kernel
theorem kit_int_list : kitB "int" "list" = some false := by decide +kernel
theorem kit_int_tuple : kitB "int" "tuple" = some false := by decide +kernel
theorem kit_str_bool : kitB "str" "bool" = some false := by decide +kernel
theorem kit_str_int : kitB "str" "int" = some false := by decide +kernel
theorem kit_str_str : kitB "str" "str" = some true := by decide +kernel
theorem kit_str_list : kitB "str" "list" = some false := by decide +kernel
theorem kit_str_tuple : kitB "str" "tuple" = some false := by decide +kernel
theorem kit_list_list : kitB "list" "list" = some true := by decide +kernel
theorem kit_list_tuple : kitB "list" "tuple" = some false := by decide +kernel
theorem kit_tuple_list : kitB "tuple" "list" = some false := by decide +kernel
theorem kit_tuple_tuple : kitB "tuple" "tuple" = some true := by decide +kernel
local macro_rules | `(tactic| walk_at "ev1") => `(tactic| first
  | exact ev_int | exact ev_bl | exact ev_str | exact ev_non | exact ev_var rfl | exact ea_nil | exact eo_none
  | with_reducible apply ev_ixDisp | with_reducible apply ev_fst | with_reducible apply ev_snd
  | with_reducible apply ev_add | with_reducible apply ev_sub | with_reducible apply ev_mul | with_reducible apply ev_fdiv | with_reducible apply ev_mod | with_reducible apply ev_pow
  | with_reducible apply ev_lt | with_reducible apply ev_le | with_reducible apply ev_gt | with_reducible apply ev_ge
  | with_reducible apply ev_eqI | with_reducible apply ev_neI
  | with_reducible apply ev_neg | with_reducible apply ev_subB | with_reducible apply ev_isNo | with_reducible apply ev_noNo
  | with_reducible apply ev_not | with_reducible apply et_test | with_reducible apply et_B | with_reducible apply et_not
  | with_reducible apply ev_abs | with_reducible apply ev_max | with_reducible apply ev_min | with_reducible apply ev_intB
  | with_reducible apply ev_gcd | with_reducible apply ev_frac | with_reducible apply ev_fadd | with_reducible apply ev_sign | with_reducible apply ev_cmpF
  | with_reducible apply ev_pull rfl
  | with_reducible apply ev_like
  | with_reducible apply ev_tup | with_reducible apply ev_lst | with_reducible apply ea_cons | with_reducible apply eo_some
  | with_reducible apply ev_order | exact ev_part rfl | exact ev_far rfl | exact ev_farPart rfl
  | (with_reducible show List.length _ ≤ 16000000; (simp; done)) | (with_reducible show (0 : Int) < _; decide) | (with_reducible show (_ : Int) < 1000000000000; decide) | (with_reducible show CPow _ _; (unfold CPow; decide)) | (with_reducible show CNz _ _; (unfold CNz; decide))
  | with_reducible apply sg_ret | with_reducible apply sg_asg | with_reducible apply sg_next)
local macro_rules | `(tactic| walk_at "ln") => `(tactic| first | walk_at "ev1" | with_reducible apply sg_seq)

section
variable {K : Fg}
theorem fnok_false {Pg : Program} {w : World} {mg : Str → Option Value} {base : Heap} {CX : CXT} {k : Nat} {f : Addr} {fd : FuncData} {ps : List Str} : FnOk Pg w K mg base CX k f fd ps (spP K fun _ _ => False) :=
  ⟨fun vs H Q E h => by obtain ⟨_, _, _, _, _, h, _⟩ := h; exact h.elim, fun A outer s H args us vs Q E _ _ _ _ h => by obtain ⟨_, _, _, _, _, h, _⟩ := h; exact h.elim⟩
/-! _law_bag -/
noncomputable def t__law_bag (K : Fg) : TS := (tRet (tLst (tCons (tCB (rListQ K) (tCons (tSl (rSlL K) (tVar 0) tNoPart (tPart (tC (V.int 63)))) tNil)) (tCons (tC (V.int 0)) (tCons (tC (V.int 20011)) tNil)))))
-- slots of _law_bag: 0 _law_script
theorem cut63 {xs : List V} (h : xs.length ≤ 63) : cutV xs none (some 63) = xs := qt_of (by simp (disch := with_unfolding_all
  unfold cutV
  rw [HT.sIx_none, show HT.sIx xs.length xs.length (some 63) = min 63 xs.length from HT.sIx_nat xs.length xs.length 63, Nat.min_eq_right h, List.drop_zero, Nat.sub_zero, List.take_length]
  ) only [↓qt_eq])
theorem rd__law_bag {D : Ends} {W : Addr → Prop} {H : Hp} {v : V} {ns : List Int} (hd : Dp K (less H W) v (.list (ns.map PyData.int))) (hl : ns.length ≤ 63)
    (q : ∀ b c H', Ex H H' → H b = none → H c = none → BagAt H' (some (b, c)) (bag0 ns) → D.rt (.ref b) H') : t__law_bag K D [some v] H := qt_of (by simp (disch := with_unfolding_all
  cases hd with
  | @lst a vs _ g t =>
    have e := dpa_ints t
    subst e
    have g' : SqL K H a (ns.map V.int) := ex_l less_ex g
    have ll : (ns.map V.int).length ≤ 63 := by rw [List.length_map]; exact hl
    unfold t__law_bag
    refine ⟨.ref a, rfl, 63, rfl, a, _, rfl, g', fun p hp => ?_⟩
    rw [cut63 ll]
    refine ⟨p, _, rfl, .inl (sq_of upd_same), fun c hc => ?_⟩
    refine ⟨by show 3 ≤ sizeLine; decide, fun b hb => ?_⟩
    have e1 : Ex H (upd H p (.lst (ns.map V.int))) := Ex.new hp
    have e2 := e1.trans (Ex.new (o := .lst (ns.map V.int)) hc)
    have nbc : c ≠ b := fun z => by
      rw [← z, upd_same] at hb; cases hb
    refine q b c _ (e2.trans (Ex.new hb)) (fresh_back e2 hb) (fresh_back e1 hc) ⟨upd_same, ?_, hl, by show (0 : Int) ≤ 20011; decide, by show (20011 : Int) < 2147483647; decide⟩
    rw [upd_ne nbc, upd_same]
    rfl
  ) only [↓qt_eq])
/-! _law_like -/
noncomputable def t__law_like (K : Fg) (n : Nat) : TS := (tSeq (tIfS (tB (tCB (rIsiT K) (tCons (tVar 1) (tCons (tTup (tCons (tC (V.ty "tuple")) (tCons (tC (V.ty "list")) tNil))) tNil)))) (tSeq (tIfS (tTest (tOp rNe (tCB (rIsi K) (tCons (tVar 0) (tCons (tC (V.ty "tuple")) tNil))) (tCB (rIsi K) (tCons (tVar 1) (tCons (tC (V.ty "tuple")) tNil))))) (tRet (tC (V.bl false))) tNext)
  (tSeq (tIfS (tOr (tNot (tB (tCB (rIsiT K) (tCons (tVar 0) (tCons (tTup (tCons (tC (V.ty "tuple")) (tCons (tC (V.ty "list")) tNil))) tNil))))) (tTest (tOp rNe (tCB (rLenQ K) (tCons (tVar 0) tNil)) (tCB (rLenQ K) (tCons (tVar 1) tNil))))) (tRet (tC (V.bl false))) tNext)
  (tRet (tCB (rAll K) (tCons (tLc (iRng1 (tCons (tCB (rLenQ K) (tCons (tVar 1) tNil)) tNil)) (gName 2) tYes (tCall (spP K (P_like n)) [] E0 (tCons (tOp (rIx K) (tVar 0) (tVar 2)) (tCons (tOp (rIx K) (tVar 1) (tVar 2)) tNil))) [2]) tNil))))) tNext)
  (tSeq (tIfS (tB (tCB (rIsi K) (tCons (tVar 1) (tCons (tC (V.ty "bool")) tNil)))) (tRet (tAndV (tCB (rIsi K) (tCons (tVar 0) (tCons (tC (V.ty "bool")) tNil))) (tOp rEq (tVar 0) (tVar 1)))) tNext)
  (tSeq (tIfS (tB (tCB (rIsi K) (tCons (tVar 1) (tCons (tC (V.ty "int")) tNil)))) (tRet (tAndV (tCB (rIsi K) (tCons (tVar 0) (tCons (tC (V.ty "int")) tNil))) (tAndV (tNotV (tCB (rIsi K) (tCons (tVar 0) (tCons (tC (V.ty "bool")) tNil)))) (tOp rEq (tVar 0) (tVar 1))))) tNext)
  (tSeq (tIfS (tB (tCB (rIsi K) (tCons (tVar 1) (tCons (tC (V.ty "str")) tNil)))) (tRet (tAndV (tCB (rIsi K) (tCons (tVar 0) (tCons (tC (V.ty "str")) tNil))) (tOp rEq (tVar 0) (tVar 1)))) tNext)
  (tRet (tAndV (tOp rIsNo (tVar 1) (tC V.non)) (tOp rIsNo (tVar 0) (tC V.non))))))))
-- slots of _law_like: 0 _law_found, 1 _law_due, 2 _law_at
theorem ln__law_like {n : Nat} : ∀ ds r, P_like (n + 1) ds r → ds.length = 2 := fun ds r h => by obtain ⟨p, rfl, _⟩ := h; rfl
theorem atI_rng {xs : List PyData} {i : Nat} (h : i < xs.length) : ∃ x, xs[i]? = some x ∧ atI xs ((0 : Int) + (i : Int)) = some x := by
  refine ⟨xs[i], List.getElem?_eq_getElem h, ?_⟩
  rw [Int.zero_add]
  exact atI_nat (List.getElem?_eq_getElem h)
theorem mem_rng {lo : Int} {n : Nat} {x : PyData} (h : x ∈ rngD lo n) : ∃ i, i < n ∧ x = .int (lo + (i : Int)) := by
  unfold rngD at h
  obtain ⟨i, hi, rfl⟩ := List.mem_map.mp h
  exact ⟨i, List.mem_range.mp hi, rfl⟩
theorem un_at {G : Gam} {j : Nat} (h : G[j]? = some .un) : ∀ i e, i ∈ [j] → G[i]? = some e → e = .un := fun i e hi g => by
  rw [List.mem_singleton.mp hi, h] at g
  exact (Option.some.inj g).symm
theorem all_true (n : Nat) (l : List PyData) : l.map (fun _ => PyData.bool true) = (l.map fun _ => true).map PyData.bool := by
  rw [List.map_map]; rfl
theorem all_true2 (l : List PyData) : (l.map fun _ => true).all id = true := by
  rw [List.all_map]; simp
theorem rd__law_like {n : Nat} {ds r} (h : P_like (n + 1) ds r) (b : Bag) : SG K (t__law_like K n) (frame 3 ds) b (.rt r b) := qt_of (by simp (disch := with_unfolding_all
  obtain ⟨x, rfl, hx, rfl⟩ := h
  unfold t__law_like
  have v0 : EvG K (tVar 0) (frame 3 [x, x]) b x b := ev_var rfl
  have v1 : EvG K (tVar 1) (frame 3 [x, x]) b x b := ev_var rfl
  cases x with
  | none =>
    refine sg_when (et_B (ev_isi2 v1 kit_NoneType_tuple kit_NoneType_list)) (fun h => by cases h) fun _ => ?_
    refine sg_when (et_B (ev_isi v1 kit_NoneType_bool)) (fun h => by cases h) fun _ => ?_
    refine sg_when (et_B (ev_isi v1 kit_NoneType_int)) (fun h => by cases h) fun _ => ?_
    refine sg_when (et_B (ev_isi v1 kit_NoneType_str)) (fun h => by cases h) fun _ => ?_
    exact sg_ret (ev_andT (ev_isNo v1) (ev_isNo v0))
  | bool i =>
    refine sg_when (et_B (ev_isi2 v1 kit_bool_tuple kit_bool_list)) (fun h => by cases h) fun _ => ?_
    refine sg_when (et_B (ev_isi v1 kit_bool_bool)) (fun _ => ?_) (fun h => by cases h)
    refine sg_seqR (sg_ret (ev_andT (ev_isi v0 kit_bool_bool) (ev_is (ev_eqB v0 v1) ?_)))
    simp
  | int i =>
    refine sg_when (et_B (ev_isi2 v1 kit_int_tuple kit_int_list)) (fun h => by cases h) fun _ => ?_
    refine sg_when (et_B (ev_isi v1 kit_int_bool)) (fun h => by cases h) fun _ => ?_
    refine sg_when (et_B (ev_isi v1 kit_int_int)) (fun _ => ?_) (fun h => by cases h)
    refine sg_seqR (sg_ret (ev_andT (ev_isi v0 kit_int_int) (ev_andT (ev_not (ev_isi v0 kit_int_bool)) (ev_is (ev_eqI v0 v1) ?_))))
    simp
  | str i =>
    refine sg_when (et_B (ev_isi2 v1 kit_str_tuple kit_str_list)) (fun h => by cases h) fun _ => ?_
    refine sg_when (et_B (ev_isi v1 kit_str_bool)) (fun h => by cases h) fun _ => ?_
    refine sg_when (et_B (ev_isi v1 kit_str_int)) (fun h => by cases h) fun _ => ?_
    refine sg_when (et_B (ev_isi v1 kit_str_str)) (fun _ => ?_) (fun h => by cases h)
    refine sg_seqR (sg_ret (ev_andT (ev_isi v0 kit_str_str) (ev_is (ev_eqS v0 v1) ?_)))
    simp
  | dict i => cases n <;> cases hx
  | tuple xs =>
    cases n with
    | zero => cases hx
    | succ n =>
      unfold okD at hx
      obtain ⟨hl, ha⟩ := Bool.and_eq_true_iff.mp hx
      have hl := of_decide_eq_true hl
      refine sg_when (et_B (ev_isi2 v1 kit_tuple_tuple kit_tuple_list)) (fun _ => ?_) (fun h => by cases h)
      refine sg_seqR ?_
      refine sg_when (et_test (ev_neB (ev_isi v0 kit_tuple_tuple) (ev_isi v1 kit_tuple_tuple))) (fun h => by cases h) fun _ => ?_
      refine sg_when (et_orF (et_not (et_B (ev_isi2 v0 kit_tuple_tuple kit_tuple_list))) (et_is (et_test (ev_neI (ev_lenT v0) (ev_lenT v1))) (b' := false) (by simp))) (fun h => by cases h) fun _ => ?_
      refine sg_ret (ev_is (ev_all (bs := (rngD 0 ((xs.length : Int).toNat)).map fun _ => true) (ev_is (ev_lcM (src_rng1 (ea_cons (ev_lenT v1) ea_nil) ⟨by omega, by omega⟩) (fun _ => .bool true) (un_at rfl) (by rw [rngD_len]; omega) fun y hy => ?_) (congrArg PyData.list (all_true 0 _)))) (by rw [all_true2]))
      obtain ⟨i, hi, rfl⟩ := mem_rng hy
      rw [Int.toNat_natCast] at hi
      obtain ⟨z, hz, hz2⟩ := atI_rng hi
      refine ⟨_, tgt_name, ev_like (ev_ixT (ev_var rfl) (ev_var rfl) hz2) (ev_ixT (ev_var rfl) (ev_var rfl) hz2) rfl (okAll_get ha hz)⟩
  | list xs =>
    cases n with
    | zero => cases hx
    | succ n =>
      unfold okD at hx
      obtain ⟨hl, ha⟩ := Bool.and_eq_true_iff.mp hx
      have hl := of_decide_eq_true hl
      refine sg_when (et_B (ev_isi2 v1 kit_list_tuple kit_list_list)) (fun _ => ?_) (fun h => by cases h)
      refine sg_seqR ?_
      refine sg_when (et_test (ev_neB (ev_isi v0 kit_list_tuple) (ev_isi v1 kit_list_tuple))) (fun h => by cases h) fun _ => ?_
      refine sg_when (et_orF (et_not (et_B (ev_isi2 v0 kit_list_tuple kit_list_list))) (et_is (et_test (ev_neI (ev_lenL v0) (ev_lenL v1))) (b' := false) (by simp))) (fun h => by cases h) fun _ => ?_
      refine sg_ret (ev_is (ev_all (bs := (rngD 0 ((xs.length : Int).toNat)).map fun _ => true) (ev_is (ev_lcM (src_rng1 (ea_cons (ev_lenL v1) ea_nil) ⟨by omega, by omega⟩) (fun _ => .bool true) (un_at rfl) (by rw [rngD_len]; omega) fun y hy => ?_) (congrArg PyData.list (all_true 0 _)))) (by rw [all_true2]))
      obtain ⟨i, hi, rfl⟩ := mem_rng hy
      rw [Int.toNat_natCast] at hi
      obtain ⟨z, hz, hz2⟩ := atI_rng hi
      refine ⟨_, tgt_name, ev_like (ev_ixL (ev_var rfl) (ev_var rfl) hz2) (ev_ixL (ev_var rfl) (ev_var rfl) hz2) rfl (okAll_get ha hz)⟩
  ) only [↓qt_eq])
/-! ### a law's loop -/
end
end U


end
section
namespace U
open PySem PyProof.Rows L2 Evl
local macro_rules | `(tactic| walk_at "ev1") => `(tactic| first
  | exact ev_int | exact ev_bl | exact ev_str | exact ev_non | exact ev_var rfl | exact ea_nil | exact eo_none
  | with_reducible apply ev_ixDisp | with_reducible apply ev_fst | with_reducible apply ev_snd
  | with_reducible apply ev_add | with_reducible apply ev_sub | with_reducible apply ev_mul | with_reducible apply ev_fdiv | with_reducible apply ev_mod | with_reducible apply ev_pow
  | with_reducible apply ev_lt | with_reducible apply ev_le | with_reducible apply ev_gt | with_reducible apply ev_ge
  | with_reducible apply ev_eqI | with_reducible apply ev_neI
  | with_reducible apply ev_neg | with_reducible apply ev_subB | with_reducible apply ev_isNo | with_reducible apply ev_noNo
  | with_reducible apply ev_not | with_reducible apply et_test | with_reducible apply et_B | with_reducible apply et_not
  | with_reducible apply ev_abs | with_reducible apply ev_max | with_reducible apply ev_min | with_reducible apply ev_intB
  | with_reducible apply ev_gcd | with_reducible apply ev_frac | with_reducible apply ev_fadd | with_reducible apply ev_sign | with_reducible apply ev_cmpF
  | with_reducible apply ev_pull rfl
  | with_reducible apply ev_like
  | with_reducible apply ev_tup | with_reducible apply ev_lst | with_reducible apply ea_cons | with_reducible apply eo_some
  | with_reducible apply ev_order | exact ev_part rfl | exact ev_far rfl | exact ev_farPart rfl
  | (with_reducible show List.length _ ≤ 16000000; (simp; done)) | (with_reducible show (0 : Int) < _; decide) | (with_reducible show (_ : Int) < 1000000000000; decide) | (with_reducible show CPow _ _; (unfold CPow; decide)) | (with_reducible show CNz _ _; (unfold CNz; decide))
  | with_reducible apply sg_ret | with_reducible apply sg_asg | with_reducible apply sg_next)
local macro_rules | `(tactic| walk_at "ln") => `(tactic| first | walk_at "ev1" | with_reducible apply sg_seq)
section

noncomputable def isPart2 : PyData → PyData → Bool
  | .int a, .int b => decide (0 < b) && decide (gI a b = 1)
  | _, _ => false
noncomputable def isPart : PyData → Bool
  | .tuple [p, q] => isPart2 p q
  | _ => false
section
variable {K : Fg} {G : Gam} {s s1 s2 s' : Bag} {ta tb te : TE} {x y : PyData} {E : XK}
end
section
variable {K : Fg}
-- slots of is_whole: 0 thing
noncomputable def t_shared (K : Fg) : TS := (tSeq (tPar 0 1 (tCons (tCB rAbs (tCons (tVar 0) tNil)) (tCons (tCB rAbs (tCons (tVar 1) tNil)) tNil)))
  (tSeq (tWhile (tTest (tOp (rI0 fun i j => V.bl (decide (j < i))) (tVar 1) (tC (V.int 0)))) (tPar 0 1 (tCons (tVar 1) (tCons (tOp (rI CNz fun i j => V.int (i.fmod j)) (tVar 0) (tVar 1)) tNil))))
  (tRet (tCB rMx (tCons (tVar 0) (tCons (tC (V.int 1)) tNil))))))
-- slots of shared: 0 one, 1 other
theorem ln_shared : ∀ ds r, P_gcd ds r → ds.length = 2 := fun ds r h => by obtain ⟨p, q, rfl, _⟩ := h; rfl
theorem rd_shared {ds r} (h : P_gcd ds r) (b : Bag) : SG K (t_shared K) (frame 2 ds) b (.rt r b) := qt_of (by simp (disch := with_unfolding_all
  obtain ⟨x, y, rfl, rfl⟩ := h
  unfold t_shared
  obtain ⟨n, h1, h2⟩ := eu_end y.natAbs x.natAbs
  apply sg_is
  apply sg_seq
  · apply sg_par
    (repeat' walk_at "ev1")
  apply sg_seq
  · refine sg_while (s' := b) (fun i => [.d (.int (eu x.natAbs y.natAbs i).1), .d (.int (eu x.natAbs y.natAbs i).2)]) (fun _ => b) (fun _ => b) n ?_ rfl (fun i hi => ?_) (fun i hi => .inl ?_) ?_
    · show Wk [.d (.int (absI x)), .d (.int (absI y))] _
      rw [absI_nat, absI_nat]
      exact .refl _
    · refine et_is (by (repeat' walk_at "ev1")) ?_
      have := h2 i hi
      simp; omega
    · have hy := h2 i hi
      refine sg_is (sg_par (ea_cons (ev_var rfl) (ea_cons (ev_mod (ev_var rfl) (ev_var rfl) ?_) ea_nil))) ?_
      · show ((eu x.natAbs y.natAbs i).2 : Int) ≠ 0
        omega
      · rw [fmod_nat]
        rfl
    · refine et_is (by (repeat' walk_at "ev1")) ?_
      rw [h1]
      rfl
  · rw [h1]
    (repeat' walk_at "ev1")
  · show Out.rt (.int (maxI _ 1)) b = _
    rw [gN_max]
  ) only [↓qt_eq])
-- slots of is_part: 0 thing
-- slots of _law_wild: 0 _law_bag_here, 1 _law_things
end

end
end U
end
section
/-! Own exception classes over any of four built-in bases, their __init__ walked as a def. -/
namespace U
open PySem PySem.W PyProof.Rows L2 Evl
structure OxC (K : Fg) (C : Addr) (B newId initId : String) (bmB : List Value) : Prop where
  fb : ExcBaseFacts B newId initId bmB
  sf : StoreFacts B bmB "object.__setattr__" "object"
  ov : excOver K C bmB = true
  mkC : excInitIn K C bmB newId = true
  hd : hasDictIn K C = true
  sa : findIn K (.ref C) "__setattr__" = some (some (.builtin "object.__setattr__"))
  exC : subIn K (.ref C) (.type "BaseException") = some true
  tyC : typeIn K (.ref C) = some (.type "type")
  kC : keepIn K (.ref C) = true
section
open Builtin Builtin.ObjectAttr
variable {prog : Program} {w : World} {A : Around} {R : Result → Shared → Prop} {hp : Heap} {g : Array GenState} {d : Drawn} {t : Nat} {os : OsState} {K : Fg} {C x : Addr} {B newId initId : String} {bmB : List Value} {name : Str} {tk : Tok} {v : Value} {fv : Array Value}
theorem taker_none (h : findIn K (.ref C) name = some none) : takerIn K C name = some none := by
  unfold takerIn
  rw [h]
  rfl
theorem has_dict (h : hasDictIn K C = true) : ∃ cd, clsIn K C = some cd ∧ cd.hasDict = true := by
  unfold hasDictIn at h
  cases e : clsIn K C with
  | none => rw [e] at h; cases h
  | some cd => rw [e] at h; exact ⟨cd, rfl, h⟩
/-- the first field of an exception that has no dict yet -/
theorem osa_first (T : OxC K C B newId initId bmB) (X : K.In hp) (hx : hp.get? x = some { cls := .ref C, data := .fields fv }) (ha : findIn K (.ref C) name = some none)
    (hq : ∀ h' tk' dx, (∀ b o, b ≠ x → hp.get? b = some o → h'.get? b = some o) → hp.objs.size ≤ dx → dx ≠ x →
      h'.get? x = some { cls := .ref C, dict := some dx, data := .fields fv } → h'.Ns1 dx (fun y => if y = name then some v else none) → R (.ok (.ret .none)) ⟨h', g, d, tk', os⟩) :
    codeAny (model prog w) A (.call (.builtin "object.__setattr__") ⟨[.ref x, .str name tk, v], []⟩) R ⟨hp, g, d, t, os⟩ := qt_of (by simp (disch := with_unfolding_all
  have I : InstAt hp x { cls := .ref C, data := .fields fv } C none := ⟨hx, rfl, rfl, trivial⟩
  have hxs : x ≠ hp.objs.size := Nat.ne_of_lt (Heap.lt_size hx)
  obtain ⟨cd, hcd, hh⟩ := has_dict T.hd
  have hcls : Looks (model prog w) hp (classData C) cd := looks_clsIn X hcd
  refine osa_openX (s := ⟨hp, g, d, t, os⟩) T.sf X I T.ov (taker_none ha) fun b => ?_
  obtain ⟨nm, bs, mro, ns, qn, hdv, sn, sb, ab, col, del⟩ := cd
  dsimp only at hh
  subst hh
  show wpAny _ _ (storeInOwnDict (.ref x) (.ref C) (.str name tk) name v b) _ _ _
  unfold storeInOwnDict ownDictForStores
  cases b <;>
  repeat (first | with_reducible refine HandSPX.store_in_new ?_ ?_ | with_reducible refine wpAny_loadPart_at hx ?_ | with_reducible refine hcls.at ?_ | wp_step)
  case' false.h.h.h.hq.refine_1 => skip
  all_goals first
    | exact ⟨_, #[], _, (Heap.get?_update_ne _ _ _ _ hxs.symm).trans (Heap.get?_push_at rfl rfl), rfl, (fun e he => absurd he (by simp)), (fun _ => rfl)⟩
    | (intro h2 tk2 hn2 hs2
       have hx1 : (hp.push { cls := .type "dict", data := .dict #[] }).get? x = some ⟨.ref C, none, .fields fv, #[]⟩ := Heap.get?_push_of_some _ hx
       refine hq h2 tk2 hp.objs.size (fun b o hb ho => ?_) (Nat.le_refl _) hxs.symm ?_ hn2
       · have e1 := hs2.2 b (Nat.ne_of_lt (Heap.lt_size ho))
         exact e1.trans ((Heap.get?_update_ne _ _ _ _ hb).trans (Heap.get?_push_of_some _ ho))
       · have e1 := hs2.2 x hxs
         exact e1.trans (Heap.get?_update_self _ hx1 rfl))
  ) only [↓qt_eq])
/-- a further field -/
theorem osa_more {dx : Addr} {m0 : Str → Option Value} {nl : List Str} (T : OxC K C B newId initId bmB) (X : K.In hp) (hx : hp.get? x = some { cls := .ref C, dict := some dx, data := .fields fv }) (ha : findIn K (.ref C) name = some none)
    (hns : hp.Ns1 dx m0) (hw : Within m0 nl) (hz : nl.length ≤ 1000)
    (hq : ∀ h' tk', (∀ b o, b ≠ dx → hp.get? b = some o → h'.get? b = some o) → h'.Ns1 dx (fun y => if y = name then some v else m0 y) →
      R (.ok (.ret .none)) ⟨h', g, d, tk', os⟩) :
    codeAny (model prog w) A (.call (.builtin "object.__setattr__") ⟨[.ref x, .str name tk, v], []⟩) R ⟨hp, g, d, t, os⟩ := qt_of (by simp (disch := with_unfolding_all
  obtain ⟨oD, esD, epD, hoD, hdD, _⟩ := hns.count hw
  have I : InstAt hp x { cls := .ref C, dict := some dx, data := .fields fv } C (some oD) := ⟨hx, rfl, rfl, hoD⟩
  obtain ⟨cd, hcd, hh⟩ := has_dict T.hd
  have hcls : Looks (model prog w) hp (classData C) cd := looks_clsIn X hcd
  refine osa_openX (s := ⟨hp, g, d, t, os⟩) T.sf X I T.ov (taker_none ha) fun b => ?_
  obtain ⟨nm, bs, mro, ns, qn, hdv, sn, sb, ab, col, del⟩ := cd
  dsimp only at hh
  subst hh
  show wpAny _ _ (storeInOwnDict (.ref x) (.ref C) (.str name tk) name v b) _ _ _
  unfold storeInOwnDict ownDictForStores
  cases b <;>
  repeat (first | with_reducible refine OEX.store_in_old hns hw hz ?_ | with_reducible refine wpAny_loadPart_at hx ?_ | with_reducible refine hcls.at ?_ | wp_step)
  all_goals
    intro h2 tk2 hn2 hs2
    exact hq h2 tk2 (fun b o hb ho => (hs2.2 b hb).trans ho) hn2
  ) only [↓qt_eq])
end
section
variable {X : Cx} {pins : List (Addr × Obj)} {σ : St} {H : Hp} {s : Shared} {a C dx : Addr} {f : Str} {y : V} {u : Value} {fs : List (Str × V)} {Q : Unit → Shared → Prop} {E : Value → Shared → Prop} {A : Around} {B newId initId : String} {bmB : List Value}
theorem ox_new (T : OxC X.K C B newId initId bmB) (I : Inv X pins σ H s) (e : H a = some (exo a C none)) (hno : findIn X.K (.ref C) f = some none) (ry : RelV y u)
    (h : ∀ dx s', H dx = none → dx ≠ a → Inv X pins σ (upd (upd H dx (exd dx [(f, y)])) a (exo a C (some dx))) s' → Q () s') :
    wpAny (model X.prog X.w) A (setAttr (.ref a) f u) Q E s := qt_of (by simp (disch := with_unfolding_all
  obtain ⟨t1, ho⟩ := exo_at I.hok e
  obtain ⟨hp, g, d, t, os⟩ := s
  refine set_plain I.kIn (od := none) ⟨ho, rfl, rfl, trivial⟩ T.sa ?_
  refine osa_first T I.kIn ho hno fun h2 tk2 dx k dn dne hx hn => ?_
  have hnd : H dx = none := I.hok.fresh dn
  have nd : ∀ {b : Addr} {o : Obj}, hp.get? b = some o → b ≠ dx := fun {b o} q =>
    Nat.ne_of_lt (Nat.lt_of_lt_of_le (Heap.lt_size q) dn)
  have na : ∀ {b : Addr}, H b = none → b ≠ a := fun {b} n z => by
    subst z
    rw [e] at n
    cases n
  have un : Un X.fs [] H (upd (upd H dx (exd dx [(f, y)])) a (exo a C (some dx))) hp h2 := by
    refine ⟨fun b o q n _ _ => k b o (na n) q, fun b o q n _ _ => ⟨o.slots, k b o (na n) q⟩, fun b o q n _ => ?_, fun b o q _ => ?_, fun b xs q => ?_, fun b o v q => ?_, fun b ps q => ⟨#[], ?_⟩⟩
    · rw [upd_ne (na n), upd_ne (nd q)]
      exact n
    · by_cases hb : b = a
      · subst hb
        exact ⟨_, hx⟩
      · exact ⟨o, k b o hb q⟩
    · rw [upd_ne (at_ne e q exo_tup), upd_ne (ne_of_none q hnd)]
      exact q
    · rw [upd_ne (at_ne e q exo_frz), upd_ne (ne_of_none q hnd)]
      exact q
    · rw [upd_ne (at_ne e q exo_tbl), upd_ne (ne_of_none q hnd), q]
      simp
  refine h dx _ hnd dne (I.un (t' := tk2) un fun b o q => ?_)
  by_cases hb : b = a
  · subst hb
    rw [upd_same] at q
    cases q
    exact exo_ok hx
  rw [upd_ne hb] at q
  by_cases hd : b = dx
  · subst hd
    rw [upd_same] at q
    cases q
    exact exd_ok hn (relO_put (fs := []) ry fun _ => True.intro)
  rw [upd_ne hd] at q
  refine (I.hok b o q).stay (fun c v hc z => k c v ?_ z) (fun c hc => ?_) (fun c xs hc => ?_)
  · rcases hc with rfl | hc
    · exact hb
    · exact at_ne e hc exo_own
  · rw [upd_ne (at_ne e hc exo_own), upd_ne (ne_of_none hc hnd)]
    exact hc
  · rw [upd_ne (at_ne e hc exo_tup), upd_ne (ne_of_none hc hnd)]
    exact hc
  ) only [↓qt_eq])
theorem ox_old (T : OxC X.K C B newId initId bmB) (I : Inv X pins σ H s) (e : H a = some (exo a C (some dx))) (ed : H dx = some (exd dx fs)) (hl : fs.length ≤ 900) (hno : findIn X.K (.ref C) f = some none) (ry : RelV y u)
    (h : ∀ s', Inv X pins σ (upd H dx (exd dx ((f, y) :: fs))) s' → Q () s') :
    wpAny (model X.prog X.w) A (setAttr (.ref a) f u) Q E s := qt_of (by simp (disch := with_unfolding_all
  obtain ⟨t1, ho⟩ := exo_at I.hok e
  obtain ⟨mA, hns, rel⟩ := exd_at I.hok ed
  have hw := within_of rel
  obtain ⟨hp, g, d, t, os⟩ := s
  obtain ⟨oD, _, _, hoD, _, _⟩ := hns.count hw
  refine set_plain I.kIn (od := some oD) ⟨ho, rfl, rfl, hoD⟩ T.sa ?_
  refine osa_more T I.kIn ho hno hns hw (by rw [List.length_map]; omega) fun h2 tk2 k hn => ?_
  have hd : ∃ o, h2.get? dx = some o := by
    obtain ⟨o, _, _, e2, _⟩ := hn
    exact ⟨o, e2⟩
  exact h _ (I.write (t' := tk2) (x := dx) (e := dx) (by rw [ed]; exact True.intro) (.inl rfl) k hd (exd_ok hn (relO_put ry rel)))
  ) only [↓qt_eq])
/-- what is promised by an own exception's class -/
structure OxK (K : Fg) (C : Addr) : Prop where
  ex : ∃ B newId initId bmB, OxC K C B newId initId bmB
/-- self.f = e, upon an exception that is being made -/
noncomputable def tOx (K : Fg) (f : Str) (to te : TE) : TS := fun D σ H => te σ H fun y H1 => to σ H1 fun x H2 => ∃ a C : Addr, x = .ref a ∧ OxK K C ∧ findIn K (.ref C) f = some none ∧
  ((H2 a = some (exo a C none) ∧ ∀ dx, H2 dx = none → dx ≠ a → D.nx σ (upd (upd H2 dx (exd dx [(f, y)])) a (exo a C (some dx)))) ∨
    ∃ (dx : Addr) (fs : List (Str × V)), H2 a = some (exo a C (some dx)) ∧ H2 dx = some (exd dx fs) ∧ fs.length ≤ 900 ∧ D.nx σ (upd H2 dx (exd dx ((f, y) :: fs))))
/-- C(e, ..), C's own __init__ keeping sp -/
noncomputable def tMkX (C : Addr) (sp : Sp) (dvs : List V) (ta : TA) : St → Hp → XK → Prop := fun σ H Q => ta σ H fun vs H1 => vs.length ≤ 1000 ∧ ∀ a, H1 a = none →
  sp (.ref a :: (vs ++ dvs)) (upd H1 a (exo a C none)) (fun v H2 => v = .non ∧ ∃ (d : Addr) (fs : List (Str × V)), H2 a = some (exo a C (some d)) ∧ H2 d = some (exd d fs) ∧ H1 d = none ∧
    Q (.ref C) (some d) (upd (del H2 a) d (.xd fs))) (fun _ _ _ => False)
end
section
variable {X : Cx} {o e : Expr} {es : List Expr} {to te : TE} {ta : TA} {f : Str} {p p' p1 p2 pos : Pos}
theorem ps_ox (ho : PE X o to) (he : PE X e te) (hs : swapsWith e (some (.Attribute o f p')) pos.line X.env = pure false := by rfl) :
    PS X (.Assign [.Attribute o f p'] e pos) (tOx X.K f to te) := by
  refine ⟨fun pins s σ H D I h => ?_⟩
  refine plainObj_wpAny_Assign_Attribute (thn (he.run pins s σ H _ I h) fun v s1 hh => ?_) hs
  obtain ⟨y, H1, I1, r1, q1⟩ := hh
  refine thn (ho.run pins s1 σ H1 _ I1 q1) fun u s2 hh => ?_
  obtain ⟨x, H2, I2, r2, a, C, ex, T, hno, q⟩ := hh
  subst ex
  obtain rfl : u = Value.ref a := r2
  obtain ⟨B, n1, n2, bm, T⟩ := T.ex
  rcases q with ⟨ea, q⟩ | ⟨dx, fs, ea, ed, hl, q⟩
  · exact ox_new T I2 ea hno r1 fun dx s' n ne J => ⟨σ, _, J, q dx n ne⟩
  · exact ox_old T I2 ea ed hl hno r1 fun s' J => ⟨σ, _, J, q⟩
/-- the call of the class, once the arguments are there -/
theorem made_ox {CX : CXT} {C fI : Addr} {k : Nat} {fd : FuncData} {ps : List Str} {sp : Sp} {ds : List Value} {dvs vs : List V} {us : List Value} {pins : List (Addr × Obj)} {σ : St} {H : Hp} {s : Shared} {Q : XK} (T : OxK X.K C)
    (iC : findIn X.K (.ref C) "__init__" = some (some (.ref fI))) (tI : typeIn X.K (.ref fI) = some (.type "function")) (F1 : FnOk X.prog X.w X.K X.mg X.base CX k fI fd ps sp) (hr : Room (k + 1) X.A) (hb : Binds X.K fd ps ds) (hd : Vals dvs ds)
    (hx : Passes CX X (fun _ _ _ => False)) (I : Inv X pins σ H s) (r1 : Vals vs us) (hz : vs.length ≤ 1000)
    (h : ∀ a, H a = none → sp (.ref a :: (vs ++ dvs)) (upd H a (exo a C none)) (fun v H2 => v = .non ∧ ∃ (d : Addr) (fs : List (Str × V)), H2 a = some (exo a C (some d)) ∧ H2 d = some (exd d fs) ∧ H d = none ∧
      Q (.ref C) (some d) (upd (del H2 a) d (.xd fs))) (fun _ _ _ => False)) :
    wpAny (model X.prog X.w) X.A (call (.ref C) us) (MkP X pins σ Q) X.xe s := qt_of (by simp (disch := with_unfolding_all
  obtain ⟨B, n1, n2, bm, T⟩ := T.ex
  obtain ⟨hp, g, dr, tk, os⟩ := s
  obtain ⟨nm, N', qn, bs, bm', hdct, sn, sub, ab, col, dd, k0, k1, k2, k3, k5, hC, hT⟩ := excInit_of I.kIn T.mkC
  have hsz : hp.objs.size ≤ hp.objs.size + 1 := Nat.le_succ _
  have hn : H (hp.objs.size + 1) = none := I.hok.fresh hsz
  have hq := h (hp.objs.size + 1) hn
  have kk : ∀ b o, hp.get? b = some o → ((hp.push (kdv_tup us)).push (HandSPX.excO C hp.objs.size)).get? b = some o := fun b o e =>
    Heap.get?_push_of_some _ (Heap.get?_push_of_some _ e)
  have hget : ((hp.push (kdv_tup us)).push (HandSPX.excO C hp.objs.size)).get? (hp.objs.size + 1) = some (HandSPX.excO C hp.objs.size) := by heap_get
  have I2 := I.laid (t' := tk) (a := hp.objs.size + 1) (o := exo (hp.objs.size + 1) C none) (h' := (hp.push (kdv_tup us)).push (HandSPX.excO C hp.objs.size)) kk hsz (exo_ok hget)
  have r2 : Vals (V.ref (hp.objs.size + 1) :: (vs ++ dvs)) (Value.ref (hp.objs.size + 1) :: (us ++ ds)) := .cons rfl (r1.append hd)
  have hl : (Value.ref (hp.objs.size + 1) :: us ++ ds).length = ps.length := by
    rw [← F1.len _ _ _ _ hq]
    exact r2.length.symm
  have hus : us.length ≤ sizeLine := by
    rw [← Paired.length r1, sizeLine_eq]
    omega
  refine wpAny_call (HandSPX.call_own T.fb hT hC (looks_findIn I.kIn iC) (fun self => bind_fn I.kIn self tI) hus ?_)
  refine codeAny_mono (F1.run _ X.stack _ _ ⟨Value.ref (hp.objs.size + 1) :: us, []⟩ (Value.ref (hp.objs.size + 1) :: (us ++ ds)) _ _ (fun _ _ _ => False) (hr.make C us []) (I2.env0.make C us []) (hb _ _ I2.kIn hl) r2 hq) fun r s' hq' => ?_
  cases r with
  | error er => exact hx pins σ _ _ er s' I2 hq'
  | ok fl =>
    cases fl with
    | ret u =>
      obtain ⟨v, H2, os2, bare2, un2, hok2, rv, ev, d, fs, ea, ed, hd1, q2⟩ := hq'
      subst ev
      obtain ⟨h2, g2, d2, t2, os'⟩ := s'
      exact ⟨rv, mk_end (raises_own T.exC T.tyC) I hsz kk un2 hok2 os2 bare2 ea ed hd1 q2⟩
    | next => exact False.elim hq'
    | brk => exact False.elim hq'
    | cont => exact False.elim hq'
  ) only [↓qt_eq])
theorem pmk_ox0 {CX : CXT} {x : Str} {C fI : Addr} {k : Nat} {fd : FuncData} {ps : List Str} {sp : Sp} {ds : List Value} {dvs : List V} (T : OxK X.K C) (kC : keepIn X.K (.ref C) = true)
    (iC : findIn X.K (.ref C) "__init__" = some (some (.ref fI))) (tI : typeIn X.K (.ref fI) = some (.type "function")) (F1 : FnOk X.prog X.w X.K X.mg X.base CX k fI fd ps sp) (hr : Room (k + 1) X.A) (hb : Binds X.K fd ps ds) (hd : Vals dvs ds)
    (hx : Passes CX X (fun _ _ _ => False)) (hg : Gl X x) (hm : X.mg x = some (.ref C)) (hdb : (x == ("__debug__" : Str)) = false := by decide) :
    PMk X (.Call (.Name x p) [] [] pos) (tMkX C sp dvs tNil) := by
  intro pins s σ H Q I h
  refine wpAny_Call_Name_kw (ld_glob I hg hm ?_ hdb)
  exact callWith_K0 I.kIn kC (made_ox (us := []) (vs := []) T iC tI F1 hr hb hd hx I .nil (by show 0 ≤ 1000; decide) h.2)
end
end U

end
section
/-! Raising, over data: promises of defs that may raise, judgements of what raises, try .. except .. as. -/
namespace U
open PySem PyProof.Rows L2 Evl
/-- an exception: its class's name, its fields -/
structure Xw where
  cls : Str
  fs : List (Str × V)
noncomputable abbrev Cs := Str → Addr
section
variable {K : Fg} {cs : Cs} {W : WX} {G G' G1 G2 : Gam} {s s1 s2 s3 s' : Bag} {ta tb tc te : TE} {t u : TT} {x y z : PyData} {tu tw tz : TS} {o : Out} {e : Xw}
/-! ### raise C(..) -/
/-- what an own exception's __init__ promises: its fields by its arguments -/
noncomputable def spIn (K : Fg) (nm : List Str) (g : List V → Option (List (Str × V))) : Sp := fun vs H Q _ => ∃ (a C : Addr) (ws : List V) (fs : List (Str × V)), vs = .ref a :: ws ∧ H a = some (exo a C none) ∧ OxK K C ∧ (∀ n ∈ nm, PySem.W.findIn K (.ref C) n = some none) ∧ g ws = some fs ∧
  ∀ d H', H d = none → H' a = some (exo a C (some d)) → H' d = some (exd d fs) → (∀ b, b ≠ a → b ≠ d → H' b = H b) → Q .non H'
noncomputable def tRaiseX (C : Addr) (sp : Sp) (dvs : List V) (ta : TA) (W : WX) : TS := fun _ σ H => tMkX C sp dvs ta σ H fun cls d H' => W cls d σ H'
theorem mk_read {C : Addr} {nm : List Str} {g : List V → Option (List (Str × V))} {dvs : List V} {ta : TA} {σ : St} {H : Hp} {Q : XK} {fs : List (Str × V)} (ox : OxK K C) (hn : ∀ n ∈ nm, PySem.W.findIn K (.ref C) n = some none)
    (h : ta σ H fun vs H1 => vs.length ≤ 1000 ∧ g (vs ++ dvs) = some fs ∧ ∀ d, H1 d = none → Q (.ref C) (some d) (upd H1 d (.xd fs))) (mono : ∀ (Q1 Q2 : List V → Hp → Prop), (∀ vs H1, Q1 vs H1 → Q2 vs H1) → ta σ H Q1 → ta σ H Q2) : tMkX C (spIn K nm g) dvs ta σ H Q := by
  refine mono _ _ (fun vs H1 hq => ?_) h
  obtain ⟨hl, hg, q⟩ := hq
  refine ⟨hl, fun a ha => ⟨a, C, vs ++ dvs, fs, rfl, upd_same, ox, hn, hg, fun d H2 hd h1 h2 h3 => ?_⟩⟩
  have hda : d ≠ a := fun z => by rw [z, upd_same] at hd; cases hd
  rw [upd_ne hda] at hd
  refine ⟨rfl, d, fs, h1, h2, hd, ?_⟩
  have e : upd (del H2 a) d (.xd fs) = upd H1 d (.xd fs) := by
    funext b
    by_cases hb : b = d
    · rw [hb, upd_same, upd_same]
    · rw [upd_ne hb, upd_ne hb]
      by_cases ha2 : b = a
      · rw [ha2, del_same, ha]
      · rw [del_ne ha2, h3 b ha2 hb, upd_ne ha2]
  rw [e]
  exact q d hd
end
section
variable {Pg : Program} {w : World} {K : Fg} {mg : Str → Option Value} {base : Heap} {cs : Cs}
/-- a def's own wish -/
noncomputable abbrev WD (E : XK) : WX := fun cls d _ H => E cls d H
end
/-! ### try .. except C as why -/
section
variable {K : Fg} {cs : Cs} {G G' G1 : Gam} {s s1 s' : Bag} {x : PyData} {e : Xw}
noncomputable def tTryAs (K : Fg) (c : Value) (i : Nat) (tb : WX → TS) (ts : Addr → Value → Option Addr → TS) : TS := fun D σ H => tb (wAs K c i ts (fun _ _ _ _ => False) D) D σ H
end
end U

end
section
/-! Defs with defaults and keyword-only parameters; the refusals' own __init__. -/
namespace U
open PySem PyProof.Rows L2 Evl
section
variable {Pg : Program} {w : World} {K : Fg} {mg : Str → Option Value} {base : Heap} {cs : Cs}
/-- all given though there are defaults -/
theorem binds_all {x qual : Str} {params : Arguments} {body : List Stmt} {scope : Scope} {dvs : List V} {kws : List (Str × V)} {f : Addr} {fd : FuncData} {ps : List Str} (F : FunD K x qual params body scope dvs kws f fd) (hd : dvs ≠ [])
    (h : ∀ (T : Addr) (kV doc pm : Value) (an : Option Addr) (cdv ct : Value) (us its : List Value), us.length = ps.length → its.length = dvs.length →
      ∃ k, bindArgs (PySem.W.fnOf x qual params body scope (.ref T) kV doc pm an cdv ct) ⟨us, []⟩ = seqItems? (.ref T) >>= k ∧ k (some its.toArray) = pure (ps.zip us)) : Binds K fd ps [] := qt_of (by simp (disch := with_unfolding_all
  obtain ⟨ds, r, b⟩ := F.binds1 (ps := ps) ps.length dvs.length hd (by omega) (fun T kV doc pm an cdv ct us its l1 l2 => by
    obtain ⟨k, e1, e2⟩ := h T kV doc pm an cdv ct us its l1 l2
    refine ⟨k, e1, ?_⟩
    rw [e2, List.drop_eq_nil_of_le (by omega), List.append_nil])
  rw [List.drop_eq_nil_of_le (Nat.le_refl _)] at r
  cases r
  exact b
  ) only [↓qt_eq])
/-- keyword-only parameters, all given by name; the others by place -/
theorem kbinds_all {x qual : Str} {params : Arguments} {body : List Stmt} {scope : Scope} {kws : List (Str × V)} {f : Addr} {fd : FuncData} {ps ks : List Str} {n : Nat} (F : FunD K x qual params body scope [] kws f fd)
    (h : ∀ (kV doc pm : Value) (an : Option Addr) (cdv ct : Value) (us ws : List Value), us.length = n → ws.length = ks.length → bindArgs (PySem.W.fnOf x qual params body scope .none kV doc pm an cdv ct) ⟨us, ks.zip ws⟩ = pure (ps.zip (us ++ ws))) :
    KBn K fd ps n ks (fun us ws => us ++ ws) (fun vs zs => vs ++ zs) := qt_of (by simp (disch := with_unfolding_all
  obtain ⟨oc, od, dV, kV, doc, pm, an, cdv, ct, osl, rfl, lk, hcd, hD, hK⟩ := F.ex
  rcases hD with ⟨_, rfl⟩ | ⟨e, _⟩
  · exact ⟨fun s us ws X l1 l2 => .of_eq (h kV doc pm an cdv ct us ws l1 l2), fun r1 r2 => r1.append r2⟩
  · exact absurd rfl e
  ) only [↓qt_eq])
end
section
variable {K : Fg} {cs : Cs} {W : WX} {G G' G1 G2 : Gam} {s s1 s2 s3 s' : Bag} {ta tb tc te : TE} {t u : TT} {x y z : PyData}
end
/-! ### Flat -/
noncomputable abbrev W0 : WX := fun _ _ _ _ => False
end U

end
section
namespace U
open PySem PyProof.Rows L2 Evl
/-- what is told of an own exception class by its name -/
structure ClsF (K : Fg) (cs : Cs) (c : Str) (nm : List Str) : Prop where
  ox : OxK K (cs c)
  no : ∀ n ∈ nm, PySem.W.findIn K (.ref (cs c)) n = some none
section
variable {K : Fg}
theorem fund_mk {x qual : Str} {st : Stmt} {f T : Addr} {oc ot : Value} {od odt an : Option Addr} {osl osT : Array (Option Value)} {kV doc pm cdv ct : Value} {its : List Value} {n : Nat} {dvs : List V}
    (l : K.lookup f = some ⟨oc, od, .func (PySem.W.fnOf x qual (defArgs st) (defBody st) (defScope st) (.ref T) kV doc pm an cdv ct), osl⟩)
    (c : PySem.W.codeIn K cdv qual = true) (k : PySem.W.keepIn K (.ref f) = true) (t : K.lookup T = some ⟨ot, odt, .seq its.toArray n, osT⟩) (r : Vals dvs its) (hd : dvs ≠ []) :
    FunD K x qual (defArgs st) (defBody st) (defScope st) dvs [] f (PySem.W.fnOf x qual (defArgs st) (defBody st) (defScope st) (.ref T) kV doc pm an cdv ct) :=
  ⟨⟨oc, od, _, kV, doc, pm, an, cdv, ct, osl, rfl, l, c, .inr ⟨hd, T, _, its, n, rfl, t, rfl, r⟩, .inl rfl⟩, k⟩
theorem fundk_mk {x qual : Str} {st : Stmt} {f D : Addr} {oc : Value} {od an : Option Addr} {osl : Array (Option Value)} {doc pm cdv ct : Value} {kws : List (Str × V)}
    (l : K.lookup f = some ⟨oc, od, .func (PySem.W.fnOf x qual (defArgs st) (defBody st) (defScope st) .none (.ref D) doc pm an cdv ct), osl⟩)
    (c : PySem.W.codeIn K cdv qual = true) (k : PySem.W.keepIn K (.ref f) = true) (h : ∀ q ∈ kws, ∃ u, PySem.W.nsIn K D q.1 = some (some u) ∧ RelV q.2 u) :
    FunD K x qual (defArgs st) (defBody st) (defScope st) [] kws f (PySem.W.fnOf x qual (defArgs st) (defBody st) (defScope st) .none (.ref D) doc pm an cdv ct) :=
  ⟨⟨oc, od, _, _, doc, pm, an, cdv, ct, osl, rfl, l, c, .inl ⟨rfl, rfl⟩, .inr ⟨D, rfl, h⟩⟩, k⟩
/-- exmOne of own classes -/
theorem em_of {C : Addr} {cls : Value} {b : Bool} (h1 : PySem.W.subIn K (.ref C) (.type "BaseException") = some true) (hdct : PySem.W.hasDictIn K C = true) (ht : PySem.W.typeIn K (.ref C) = some (.type "type")) (h4 : PySem.W.subIn K cls (.ref C) = some b) : PySem.W.exmOne K cls (.ref C) = some b := PySem.W.exm_ref h1 hdct ht h4
end
end U

end
section
/-! Own exceptions whose __init__ calls the base class's own. -/
namespace U
open PySem PySem.W PyProof.Rows L2 Evl
/-- C.m(e, ..), C an own class, m a plain def of it -/
theorem pe_up {X : Cx} {CX : CXT} {k : Nat} {x m : Str} {C g : Addr} {mc : Value} {fd : FuncData} {ps : List Str} {sp : Sp} {E : XK} {ds : List Value} {dvs : List V} {e : Expr} {es : List Expr} {t : TA} {p pos apos : Pos} {pl : Sem Bool}
    (hg : Gl X x) (hm : X.mg x = some (.ref C)) (rd : readsIn X.K C mc = true) (ga : specialIn X.K (.ref C) "__getattribute__" = some (some (.builtin "type.__getattribute__"))) (fa : findCls X.K (.ref C) mc m = some (.val (.ref g)))
    (hk : keepIn X.K (.ref g) = true) (F : FnOk X.prog X.w X.K X.mg X.base CX k g fd ps sp) (hr : Room k X.A) (hb : Binds X.K fd ps ds) (hd : Vals dvs ds) (hx : Passes CX X E) (ha : PA X (e :: es) t) (hdb : (x == ("__debug__" : Str)) = false := by decide)
    (ht : eval (.Call (.Attribute (.Name x p) m apos) (e :: es) [] pos) X.env = (do
      let ov ← eval (.Name x p) X.env
      standAt apos.atName
      let (f, first) ← holding [ov] (getMethod ov m pl)
      callWith pos f first (backTo pos (starEach (e :: es) X.env)) (backToKw pos (keywordEach [] X.env))) := by rfl)
    (he : starEach (e :: es) X.env = (false, eval e X.env) :: starEach es X.env := by rfl) (hpl : (backTo pos (starEach es X.env)).any (·.1) = false := by rfl) :
    PE X (.Call (.Attribute (.Name x p) m apos) (e :: es) [] pos) (tCall sp dvs E t) := by
  refine ⟨fun pins s σ H Q I h => ?_⟩
  refine methodCall_KW (pl := pl) (ld_glob I hg hm ?_ hdb) ht
  refine method_cls I.kIn ga (cls_value I.kIn rd fa rfl ?_)
  show wpAny _ _ (callWith pos (.ref g) [] (backTo pos (starEach (e :: es) X.env)) []) _ _ _
  refine callWith_K (h₀ := X.base) I.ok.mod.kin hk (thn (ha.run pos pins _ σ H _ (I.tok _) h) fun us s1 hh => ?_) he hpl
  obtain ⟨vs, H1, I1, r, q⟩ := hh
  exact ⟨I1.kIn, run_fn F hr hb hd hx I1 r q⟩
/-- self.word = word -/
noncomputable abbrev gWd : List V → Option (List (Str × V)) := fun ws => match ws with
  | [v] => some [("word", v)]
  | _ => none
/-- a word that is always the same -/
noncomputable abbrev gCw (w : Str) : List V → Option (List (Str × V)) := fun ws => match ws with
  | [] => some [("word", .str w)]
  | _ => none
noncomputable def t_Wd (K : Fg) : TS := tOx K "word" (tVar 0) (tVar 1)
section
variable {Pg : Program} {w : World} {K : Fg} {mg : Str → Option Value} {base : Heap} {cs : Cs}
theorem okWd {st : Stmt} {qual : Str} {dvs : List V} {f : Addr} {fd : FuncData} {k : Nat} (F : FunD K "__init__" qual (defArgs st) (defBody st) (defScope st) dvs [] f fd) (S : FnScope ["self", "word"] ["self", "word"] (defScope st))
    (hb : ∀ (cdv : Value) (A : Around) (outer : List Env) (sh : Shared) (H : Hp) (E : XK), PSs (cxOf CX0 Pg w K mg base ["self", "word"] qual (defScope st) f cdv A outer sh H E) (defBody st) (t_Wd K)) : FnOk Pg w K mg base CX0 (k + 1) f fd ["self", "word"] (spIn K ["word"] gWd) := qt_of (by simp (disch := with_unfolding_all
  refine F.ok S (fun vs H Q E h => ?_) (fun cdv A outer sh H vs Q E hr h => ?_)
  · obtain ⟨a, C, ws, fs, rfl, _, _, _, hg, _⟩ := h
    match ws, hg with
    | [v], _ => rfl
  · obtain ⟨a, C, ws, fs, rfl, ha, ox, hn, hg, q⟩ := h
    match ws, hg with
    | [v], hg =>
      cases hg
      refine ⟨_, hb cdv A outer sh H E, ?_⟩
      refine ⟨v, rfl, .ref a, rfl, a, C, rfl, ox, hn _ (List.mem_singleton.mpr rfl), .inl ⟨ha, fun d hd hda => ?_⟩⟩
      exact q d _ hd upd_same (by rw [upd_ne hda, upd_same]) fun b h1 h2 => by rw [upd_ne h1, upd_ne h2]
  ) only [↓qt_eq])
noncomputable def t_Sub (K : Fg) (w : Str) : TS := tDrop (tCall (spIn K ["word"] gWd) [] E0 (tCons (tVar 0) (tCons (tC (V.str w)) tNil)))
theorem okSub (wd : Str) {st : Stmt} {qual : Str} {f : Addr} {fd : FuncData} {k : Nat} (F : Fun K "__init__" qual st f fd) (S : FnScope ["self"] ["self"] (defScope st))
    (hb : ∀ (cdv : Value) (A : Around) (outer : List Env) (sh : Shared) (H : Hp) (E : XK), Room k (A.deeper (envOfC qual (defScope st) sh.heap.objs.size f cdv)) → PSs (cxOf CX0 Pg w K mg base ["self"] qual (defScope st) f cdv A outer sh H E).nox (defBody st) (t_Sub K wd)) : FnOk Pg w K mg base CX0 (k + 1) f fd ["self"] (spIn K ["word"] (gCw wd)) := qt_of (by simp (disch := with_unfolding_all
  refine F.ok S (fun vs H Q E h => ?_) (fun cdv A outer sh H vs Q E hr h => ?_)
  · obtain ⟨a, C, ws, fs, rfl, _, _, _, hg, _⟩ := h
    match ws, hg with
    | [], _ => rfl
  · obtain ⟨a, C, ws, fs, rfl, ha, ox, hn, hg, q⟩ := h
    match ws, hg with
    | [], hg =>
      cases hg
      refine ⟨_, hb cdv A outer sh H E hr, ?_⟩
      exact ⟨.ref a, rfl, a, C, [.str wd], _, rfl, ha, ox, hn, rfl, fun d H' h1 h2 h3 h4 => q d H' h1 h2 h3 h4⟩
  ) only [↓qt_eq])
end
end U

end
section
namespace U
open PySem PyProof.Rows L2 Evl
/-- the values of a module's constants -/
noncomputable abbrev Gs := Str → V
section
variable {K : Fg} {cs : Cs} {W : WX} {G G' G1 : Gam} {s s1 s2 s' : Bag} {ta tb te : TE} {x y : PyData} {e : Xw}
end
end U

end
section
namespace U
open PySem PySem.W PyProof.Rows L2 Evl
section
variable {prog : Program} {w : World} {A : Around} {E : Value → Shared → Prop} {s : Shared}
end
end U

end
section
/-! The second data layer: what is wanted of a reading, and what suffices for it. Slots hold data, things of one's own, or the bag. -/
namespace U.N
open PySem L2 Evl
/-- a thing of one's own: what it holds, and how it stands in the heap -/
structure Own where
  flat : List PyData
  obj : Addr → List V → HO
/-- a list of one's own -/
noncomputable def ol (xs : List PyData) : Own := ⟨xs, fun _ vs => .lst vs⟩
inductive En where
  | un
  | d (x : PyData)
  | ow (c : Own)
  | bag
  /-- a caught exception: itself, its dict, its fields -/
  | xc (a d : Addr) (fs : List (Str × V))
  /-- a thing that stays as it is -/
  | fz (c : Own)
  /-- any value, known as it is -/
  | vl (v : V)
noncomputable abbrev Gam := List En
noncomputable def Zs (W : Addr → Prop) (B : Option (Addr × Addr)) (ad : Nat → Addr) (G : Gam) : Addr → Prop := fun a => W a ∨ (∃ i c, G[i]? = some (.ow c) ∧ a = ad i) ∨ InB B a
noncomputable def Slot (K : Fg) (B : Option (Addr × Addr)) (ad : Nat → Addr) (H : Hp) (Z : Addr → Prop) (i : Nat) (o : Option V) : En → Prop
  | .un => True
  | .d x => ∃ v, o = some v ∧ Dp K (less H Z) v x
  | .ow c => o = some (.ref (ad i)) ∧ ∃ vs, H (ad i) = some (c.obj (ad i) vs) ∧ DpAll K (less H Z) vs c.flat
  | .bag => ∃ b c, B = some (b, c) ∧ o = some (.ref b)
  | .xc a d fs => o = some (.ref a) ∧ less H Z d = some (.xd fs)
  | .fz c => ∃ a vs, o = some (.ref a) ∧ less H Z a = some (c.obj a vs) ∧ DpAll K (less H Z) vs c.flat
  | .vl v => o = some v
noncomputable def BagOk (H : Hp) (B : Option (Addr × Addr)) : Prop := ∃ s : Bag, s.ok ∧ BagAt H B s
theorem BagOk.xb {H H2 : Hp} {B : Option (Addr × Addr)} (h : BagOk H B) (e : ∀ a, InB B a → H2 a = H a) : BagOk H2 B := qt_of (by simp (disch := with_unfolding_all
  obtain ⟨s, ok, h⟩ := h
  refine ⟨s, ok, ?_⟩
  rcases B with _ | ⟨b, c⟩
  · trivial
  · have h : H b = _ ∧ _ := h
    exact ⟨(e b ⟨b, c, rfl, .inl rfl⟩).trans h.1, (e c ⟨b, c, rfl, .inr rfl⟩).trans h.2.1, h.2.2⟩
  ) only [↓qt_eq])
theorem BagOk.there {H : Hp} {B : Option (Addr × Addr)} (h : BagOk H B) {a : Addr} (z : InB B a) : ∃ o, H a = some o := by
  obtain ⟨s, ok, h⟩ := h
  exact bag_there h z
theorem BagOk.ext {H H2 : Hp} {B : Option (Addr × Addr)} (h : BagOk H B) (e : Ex H H2) : BagOk H2 B := h.xb fun a z => by
  obtain ⟨o, q⟩ := h.there z
  rw [q, e _ _ q]
theorem BagOk.upd {H : Hp} {B : Option (Addr × Addr)} (h : BagOk H B) {p : Addr} {o : HO} (n : ¬ InB B p) : BagOk (upd H p o) B := h.xb fun a z => upd_ne fun e => n (e ▸ z)
/-- the state of a def's frame: slots, heap, bag, against the heap H0 at its entry -/
structure Sta (K : Fg) (W : Addr → Prop) (B : Option (Addr × Addr)) (ad : Nat → Addr) (H0 H : Hp) (σ : St) (G : Gam) : Prop where
  len : σ.length = G.length
  at_ : ∀ i e, G[i]? = some e → ∃ o, σ[i]? = some o ∧ Slot K B ad H (Zs W B ad G) i o e
  inj : ∀ i j c c', G[i]? = some (.ow c) → G[j]? = some (.ow c') → ad i = ad j → i = j
  sep : ∀ i c, G[i]? = some (.ow c) → H0 (ad i) = none ∧ ¬ InB B (ad i) ∧ ¬ W (ad i)
  base : ∀ a o, H0 a = some o → ¬ InB B a → H a = some o
  bag : BagOk H B
  wd : ∀ a, W a → ∃ o, H a = some o
section
variable {K : Fg} {W : Addr → Prop} {B : Option (Addr × Addr)} {ad : Nat → Addr} {H0 H H2 : Hp} {σ : St} {G G' : Gam}
theorem Slot.mono {Z Z' : Addr → Prop} {i : Nat} {o : Option V} {e : En} (h : Slot K B ad H Z i o e) (x : Ex (less H Z) (less H2 Z')) (y : ∀ c u, e = .ow c → H (ad i) = some u → H2 (ad i) = some u) : Slot K B ad H2 Z' i o e := qt_of (by simp (disch := with_unfolding_all
  cases e with
  | un => trivial
  | d d => obtain ⟨v, e, h⟩ := h; exact ⟨v, e, dp_mono x h⟩
  | ow c => obtain ⟨e, vs, h1, h2⟩ := h; exact ⟨e, vs, y c _ rfl h1, dpa_mono x h2⟩
  | bag => exact h
  | xc a d fs => exact ⟨h.1, x _ _ h.2⟩
  | fz c => obtain ⟨a, vs, e, h1, h2⟩ := h; exact ⟨a, vs, e, x _ _ h1, dpa_mono x h2⟩
  | vl v => exact h
  ) only [↓qt_eq])
theorem Sta.there (S : Sta K W B ad H0 H σ G) (a : Addr) (z : Zs W B ad G a) : ∃ o, H a = some o := by
  rcases z with z | ⟨i, c, g, rfl⟩ | z
  · exact S.wd _ z
  · obtain ⟨_, _, _, vs, h1, _⟩ := S.at_ i _ g
    exact ⟨_, h1⟩
  · exact S.bag.there z
/-- everything stays -/
theorem Sta.ext (S : Sta K W B ad H0 H σ G) (e : Ex H H2) : Sta K W B ad H0 H2 σ G where
  len := S.len
  at_ := fun i en h => by
    obtain ⟨o, h1, h2⟩ := S.at_ i en h
    exact ⟨o, h1, h2.mono (less_mono e) fun _ _ _ q => e _ _ q⟩
  inj := S.inj
  sep := S.sep
  base := fun a o h n => e _ _ (S.base a o h n)
  bag := S.bag.ext e
  wd := fun a z => by
    obtain ⟨o, h⟩ := S.wd a z
    exact ⟨o, e _ _ h⟩
/-- all but the bag stays -/
theorem Sta.drawn (S : Sta K W B ad H0 H σ G) (e : Xb B H H2) (b : BagOk H2 B) : Sta K W B ad H0 H2 σ G where
  len := S.len
  at_ := fun i en h => by
    obtain ⟨o, h1, h2⟩ := S.at_ i en h
    refine ⟨o, h1, h2.mono (less_but fun a o q z => e a o q fun y => z (.inr (.inr y))) fun c vs q q2 => ?_⟩
    subst q
    exact e _ _ q2 (S.sep i c h).2.1
  inj := S.inj
  sep := S.sep
  base := fun a o h n => e a o (S.base a o h n) n
  bag := b
  wd := fun a z => by
    by_cases hb : InB B a
    · exact b.there hb
    · obtain ⟨o, h⟩ := S.wd a z
      exact ⟨o, e _ _ h hb⟩
theorem Xb.lz {H H2 : Hp} (a : Xb B H H2) : Ex (less H (Zs W B ad G)) (less H2 (Zs W B ad G)) := less_but fun p o h n => a p o h fun z => n (.inr (.inr z))
theorem Zs.set_of {i : Nat} {e : En} (he : ∀ c, e ≠ .ow c) {a : Addr} (h : Zs W B ad (G.set i e) a) : Zs W B ad G a := by
  rcases h with h | ⟨j, c, h, r⟩ | h
  · exact .inl h
  · rcases get_set h with ⟨rfl, _, e'⟩ | ⟨_, h⟩
    · exact absurd e' (he c)
    · exact .inr (.inl ⟨j, c, h, r⟩)
  · exact .inr (.inr h)
/-- a slot gets a thing that is not of one's own -/
theorem Sta.set (S : Sta K W B ad H0 H σ G) {i : Nat} {e : En} {o : Option V} (he : ∀ c, e ≠ .ow c) (h : Slot K B ad H (Zs W B ad G) i o e) : Sta K W B ad H0 H (σ.set i o) (G.set i e) where
  len := by rw [List.length_set, List.length_set]; exact S.len
  at_ := fun j en g => by
    rcases get_set g with ⟨rfl, l, rfl⟩ | ⟨z, g⟩
    · refine ⟨o, List.getElem?_set_self (by rw [S.len]; exact l), h.mono (less_sub fun a q => Zs.set_of he q) fun _ _ _ q => q⟩
    · obtain ⟨o', h1, h2⟩ := S.at_ j en g
      exact ⟨o', by rw [List.getElem?_set_ne z]; exact h1, h2.mono (less_sub fun a q => Zs.set_of he q) fun _ _ _ q => q⟩
  inj := fun j k c c' g g' q => by
    rcases get_set g with ⟨rfl, l, e⟩ | ⟨z, g⟩
    · exact absurd e (he c)
    · rcases get_set g' with ⟨rfl, l, e⟩ | ⟨z', g'⟩
      · exact absurd e (he c')
      · exact S.inj j k c c' g g' q
  sep := fun j c g => by
    rcases get_set g with ⟨rfl, l, e⟩ | ⟨z, g⟩
    · exact absurd e (he c)
    · exact S.sep j c g
  base := S.base
  bag := S.bag
  wd := S.wd
theorem Sta.setD (S : Sta K W B ad H0 H σ G) {i : Nat} {v : V} {x : PyData} (h : Dp K (less H (Zs W B ad G)) v x) : Sta K W B ad H0 H (σ.set i (some v)) (G.set i (.d x)) :=
  S.set (fun _ z => by cases z) ⟨v, rfl, h⟩
theorem Sta.setU (S : Sta K W B ad H0 H σ G) {i : Nat} {o : Option V} : Sta K W B ad H0 H (σ.set i o) (G.set i .un) :=
  S.set (fun _ z => by cases z) trivial
theorem Sta.fresh (S : Sta K W B ad H0 H σ G) {p : Addr} (h : H p = none) : H0 p = none ∧ ¬ InB B p ∧ ¬ Zs W B ad G p := qt_of (by simp (disch := with_unfolding_all
  have hZ : ¬ Zs W B ad G p := fun z => by
    obtain ⟨o, q⟩ := S.there p z
    rw [h] at q; cases q
  have hB : ¬ InB B p := fun z => hZ (.inr (.inr z))
  refine ⟨?_, hB, hZ⟩
  cases e : H0 p with
  | none => rfl
  | some o => rw [S.base p o e hB] at h; cases h
  ) only [↓qt_eq])
/-- a thing of another's, which is new to this def, is changed -/
theorem Sta.foreign (S : Sta K W B ad H0 H σ G) {p : Addr} {o : HO} (hw : W p) (h0 : H0 p = none) (hB : ¬ InB B p) : Sta K W B ad H0 (upd H p o) σ G ∧ less (upd H p o) (Zs W B ad G) = less H (Zs W B ad G) := qt_of (by simp (disch := with_unfolding_all
  have el : less (upd H p o) (Zs W B ad G) = less H (Zs W B ad G) := by
    funext a
    by_cases z : Zs W B ad G a
    · rw [less_yes z, less_yes z]
    · rw [less_no z, less_no z, upd_ne (fun e => z (.inl (by rw [e]; exact hw)))]
  refine ⟨⟨S.len, fun i e h => ?_, S.inj, S.sep, fun a u q n => ?_, S.bag.upd hB, fun a z => (S.wd a z).elim fun o q => upd_there q⟩, el⟩
  · obtain ⟨u, g1, g2⟩ := S.at_ i e h
    refine ⟨u, g1, g2.mono (by rw [el]; exact Ex.refl _) fun c vs q q2 => ?_⟩
    subst q
    rw [upd_ne (fun z => (S.sep i c h).2.2 (by rw [z]; exact hw))]; exact q2
  · rw [upd_ne (fun z => by rw [z, h0] at q; cases q)]; exact S.base a u q n
  ) only [↓qt_eq])
/-- a new thing is for a while another's -/
theorem Sta.lend (S : Sta K W B ad H0 H σ G) {p : Addr} {o : HO} (hp : H p = none) : Sta K (fun a => W a ∨ a = p) B ad H0 (upd H p o) σ G ∧ less (upd H p o) (Zs (fun a => W a ∨ a = p) B ad G) = less H (Zs W B ad G) := qt_of (by simp (disch := with_unfolding_all
  obtain ⟨_, _, np⟩ := S.fresh hp
  have zz : ∀ a, Zs (fun a => W a ∨ a = p) B ad G a ↔ Zs W B ad G a ∨ a = p := fun a => by
    constructor
    · rintro ((z | z) | z | z)
      · exact .inl (.inl z)
      · exact .inr z
      · exact .inl (.inr (.inl z))
      · exact .inl (.inr (.inr z))
    · rintro ((z | z | z) | z)
      · exact .inl (.inl z)
      · exact .inr (.inl z)
      · exact .inr (.inr z)
      · exact .inl (.inr z)
  have el : less (upd H p o) (Zs (fun a => W a ∨ a = p) B ad G) = less H (Zs W B ad G) := by
    funext a
    by_cases e : a = p
    · rw [less_yes ((zz a).mpr (.inr e)), e, less_no np, hp]
    · by_cases z : Zs W B ad G a
      · rw [less_yes z, less_yes ((zz a).mpr (.inl z))]
      · rw [less_no z, less_no (fun y => ((zz a).mp y).elim z e), upd_ne e]
  have ex : Ex H (upd H p o) := Ex.new hp
  have S' := S.ext ex
  refine ⟨⟨S.len, fun i e h => ?_, S.inj, fun i c h => ⟨(S.sep i c h).1, (S.sep i c h).2.1, fun z => z.elim (S.sep i c h).2.2 fun z => np (by rw [← z]; exact .inr (.inl ⟨i, c, h, rfl⟩))⟩, S'.base, S'.bag, fun a z => z.elim (fun z => S'.wd a z) fun z => ⟨o, by rw [z]; exact upd_same⟩⟩, el⟩
  obtain ⟨u, g1, g2⟩ := S.at_ i e h
  exact ⟨u, g1, g2.mono (by rw [el]; exact Ex.refl _) fun c vs q q2 => ex _ _ q2⟩
  ) only [↓qt_eq])
/-- .. and is given back -/
theorem Sta.back {p : Addr} (S : Sta K (fun a => W a ∨ a = p) B ad H0 H σ G) : Sta K W B ad H0 H σ G ∧ Ex (less H (Zs (fun a => W a ∨ a = p) B ad G)) (less H (Zs W B ad G)) := qt_of (by simp (disch := with_unfolding_all
  have ex : Ex (less H (Zs (fun a => W a ∨ a = p) B ad G)) (less H (Zs W B ad G)) := less_sub fun a z => z.elim (fun z => .inl (.inl z)) .inr
  refine ⟨⟨S.len, fun i e h => ?_, S.inj, fun i c h => ⟨(S.sep i c h).1, (S.sep i c h).2.1, fun z => (S.sep i c h).2.2 (.inl z)⟩, S.base, S.bag, fun a z => S.wd a (.inl z)⟩, ex⟩
  obtain ⟨u, g1, g2⟩ := S.at_ i e h
  exact ⟨u, g1, g2.mono ex fun _ _ _ q => q⟩
  ) only [↓qt_eq])
theorem new_ex (S : Sta K W B ad H0 H σ G) {p : Addr} {o : HO} (h : H p = none) :
    Sta K W B ad H0 (upd H p o) σ G ∧ Xb B H (upd H p o) ∧ less (upd H p o) (Zs W B ad G) p = some o := by
  have e : Ex H (upd H p o) := Ex.new h
  exact ⟨S.ext e, .of e, less_of (S.fresh h).2.2 upd_same⟩
end
end U.N

end
section
namespace U.N
open PySem PyProof.Rows L2 Evl
/-! ### relations by name -/
@[irreducible] def rAddI : R2 := rI0 fun i j => .int (i + j)
@[irreducible] def rPowI : R2 := rI CPow fun i j => .int (i ^ j.toNat)
@[irreducible] def rLtI : R2 := rI0 fun i j => .bl (decide (i < j))
@[irreducible] def rLeI : R2 := rI0 fun i j => .bl (decide (i ≤ j))
@[irreducible] def rGtI : R2 := rI0 fun i j => .bl (decide (j < i))
@[irreducible] def rGeI : R2 := rI0 fun i j => .bl (decide (j ≤ i))
@[irreducible] def rNegI : V → Hp → VK → Prop := rU fun i => .int (-i)
section
variable {X : Cx}
theorem op_addI : OpR X (binaryOp .Add) rAddI := by unfold rAddI; exact op_add
theorem op_powI : OpR X (binaryOp .Pow) rPowI := by unfold rPowI; exact op_pow
theorem op_ltI : OpR X (compareOp .Lt) rLtI := by unfold rLtI; exact op_lt
theorem op_leI : OpR X (compareOp .LtE) rLeI := by unfold rLeI; exact op_le
theorem op_gtI : OpR X (compareOp .Gt) rGtI := by unfold rGtI; exact op_gt
theorem op_geI : OpR X (compareOp .GtE) rGeI := by unfold rGeI; exact op_ge
theorem un_negI : UnR X (unaryOp .USub) rNegI := by unfold rNegI; exact un_neg
end
/-! ### what is wanted -/
section
variable (K : Fg) (cs : Cs) (W : WX)
/-- what may leave by raising -/
noncomputable def XP (Wd : Addr → Prop) (B : Option (Addr × Addr)) (ad : Nat → Addr) (H0 H : Hp) (σ : St) (G : Gam) (ε : Xw → Prop) : Prop :=
  ∀ e, ε e → ∀ d H2, Sta K Wd B ad H0 H2 σ G → Xb B H H2 → H0 d = none → less H2 (Zs Wd B ad G) d = some (.xd e.fs) → W (.ref (cs e.cls)) (some d) σ H2
noncomputable def EW (te : TE) (G : Gam) (φ : PyData → Prop) (ε : Xw → Prop) : Prop :=
  ∀ Wd B ad H0 H σ, Sta K Wd B ad H0 H σ G → ∀ Q : VK, (∀ x, φ x → ∀ v H2, Sta K Wd B ad H0 H2 σ G → Xb B H H2 → Dp K (less H2 (Zs Wd B ad G)) v x → Q v H2) → XP K cs W Wd B ad H0 H σ G ε → te σ H Q
/-- a new thing of one's own -/
noncomputable def EF (te : TE) (G : Gam) (ψ : Own → Prop) (ε : Xw → Prop) : Prop :=
  ∀ Wd B ad H0 H σ, Sta K Wd B ad H0 H σ G → ∀ Q : VK, (∀ c, ψ c → ∀ a vs H2, Sta K Wd B ad H0 H2 σ G → Xb B H H2 → H2 a = none → DpAll K (less H2 (Zs Wd B ad G)) vs c.flat → Q (.ref a) (upd H2 a (c.obj a vs))) → XP K cs W Wd B ad H0 H σ G ε → te σ H Q
noncomputable def TW (tt : TT) (G : Gam) (ψ : Bool → Prop) (ε : Xw → Prop) : Prop :=
  ∀ Wd B ad H0 H σ, Sta K Wd B ad H0 H σ G → ∀ Q : Bool → Hp → Prop, (∀ b, ψ b → ∀ H2, Sta K Wd B ad H0 H2 σ G → Xb B H H2 → Q b H2) → XP K cs W Wd B ad H0 H σ G ε → tt σ H Q
noncomputable def AW (ta : TA) (G : Gam) (α : List PyData → Prop) (ε : Xw → Prop) : Prop :=
  ∀ Wd B ad H0 H σ, Sta K Wd B ad H0 H σ G → ∀ Q : List V → Hp → Prop, (∀ xs, α xs → ∀ vs H2, Sta K Wd B ad H0 H2 σ G → Xb B H H2 → DpAll K (less H2 (Zs Wd B ad G)) vs xs → Q vs H2) → XP K cs W Wd B ad H0 H σ G ε → ta σ H Q
noncomputable def IW (wi : TI) (G : Gam) (ι : List PyData → Prop) (ε : Xw → Prop) : Prop :=
  ∀ Wd B ad H0 H σ, Sta K Wd B ad H0 H σ G → ∀ R : It → Hp → Prop, (∀ ds, ι ds → ∀ J H1, Sta K Wd B ad H0 H1 σ G → Xb B H H1 → ItOk K J ds (less H1 (Zs Wd B ad G)) → R J H1) → XP K cs W Wd B ad H0 H σ G ε → wi σ H R
noncomputable def OW (to : TO) (G : Gam) (ψ : Option Int → Prop) (ε : Xw → Prop) : Prop :=
  ∀ Wd B ad H0 H σ, Sta K Wd B ad H0 H σ G → ∀ Q : Option Int → Hp → Prop, (∀ o, ψ o → ∀ H2, Sta K Wd B ad H0 H2 σ G → Xb B H H2 → Q o H2) → XP K cs W Wd B ad H0 H σ G ε → to σ H Q
inductive Out where
  | nx (G : Gam)
  | rt (x : PyData)
  | rl (c : Own)
  | bk (G : Gam)
  | ct (G : Gam)
  | ex (e : Xw) (G : Gam)
noncomputable def PostO (Wd : Addr → Prop) (B : Option (Addr × Addr)) (H0 M : Hp) (D : Ends) : Out → Prop
  | .nx G => ∀ ad H σ, Sta K Wd B ad H0 H σ G → Ex M (less H (Zs Wd B ad G)) → D.nx σ H
  | .rt x => ∀ v H, Xb B H0 H → BagOk H B → Dp K (less H fun a => Wd a ∨ InB B a) v x → D.rt v H
  | .rl c => ∀ a vs H, Xb B H0 H → BagOk H B → H0 a = none → H a = some (c.obj a vs) → DpAll K (less H fun b => (Wd b ∨ InB B b) ∨ b = a) vs c.flat → D.rt (.ref a) H
  | .bk G => ∀ ad H σ, Sta K Wd B ad H0 H σ G → Ex M (less H (Zs Wd B ad G)) → D.bk σ H
  | .ct G => ∀ ad H σ, Sta K Wd B ad H0 H σ G → Ex M (less H (Zs Wd B ad G)) → D.ct σ H
  | .ex e G => ∀ d ad H σ, Sta K Wd B ad H0 H σ G → Ex M (less H (Zs Wd B ad G)) → H0 d = none → less H (Zs Wd B ad G) d = some (.xd e.fs) → W (.ref (cs e.cls)) (some d) σ H
noncomputable def SW (ts : TS) (G : Gam) (Φ : Out → Prop) : Prop :=
  ∀ Wd B ad H0 H σ (D : Ends), Sta K Wd B ad H0 H σ G → (∀ o, Φ o → PostO K cs W Wd B H0 (less H (Zs Wd B ad G)) D o) → ts D σ H
end
noncomputable def Cnd (b : Bool) (P Q : Prop) : Prop := (b = true → P) ∧ (b = false → Q)
section
variable {P Q : Prop} {b : Bool}
theorem cnd_t (p : P) : Cnd true P Q := ⟨fun _ => p, (nomatch ·)⟩
theorem cnd_f (q : Q) : Cnd false P Q := ⟨(nomatch ·), fun _ => q⟩
theorem cnd_nt (q : Q) : Cnd (!true) P Q := cnd_f q
theorem cnd_nf (p : P) : Cnd (!false) P Q := cnd_t p
theorem cnd_T (h : b = true) (p : P) : Cnd b P Q := ⟨fun _ => p, fun h' => by rw [h] at h'; cases h'⟩
theorem cnd_F (h : b = false) (q : Q) : Cnd b P Q := ⟨fun h' => (by rw [h] at h'; cases h'), fun _ => q⟩
theorem cnd_yes {p : Prop} [Decidable p] (h : p) (x : P) : Cnd (decide p) P Q := cnd_T (decide_eq_true h) x
theorem cnd_no {p : Prop} [Decidable p] (h : ¬ p) (x : Q) : Cnd (decide p) P Q := cnd_F (decide_eq_false h) x
theorem cnd_d {p : Prop} [Decidable p] (x : p → P) (y : ¬ p → Q) : Cnd (decide p) P Q := ⟨fun h => x (of_decide_eq_true h), fun h => y (of_decide_eq_false h)⟩
theorem cnd_nd {p : Prop} [Decidable p] (x : ¬ p → P) (y : p → Q) : Cnd (!decide p) P Q := ⟨fun h => x (fun z => by rw [decide_eq_true z] at h; cases h), fun h => y (Classical.byContradiction fun z => by rw [decide_eq_false z] at h; cases h)⟩
end
section
variable {K : Fg} {cs : Cs} {W : WX} {G G' G1 G2 : Gam} {ta tb tc te : TE} {t u : TT} {φ : PyData → Prop} {ε : Xw → Prop} {ψ : Bool → Prop} {α : List PyData → Prop} {ι : List PyData → Prop} {χ : Own → Prop} {ω : Option Int → Prop}
variable {Wd : Addr → Prop} {B : Option (Addr × Addr)} {ad : Nat → Addr} {H0 H H1 H2 : Hp} {σ : St}
theorem XP.go (h : XP K cs W Wd B ad H0 H σ G ε) (x : Xb B H H1) : XP K cs W Wd B ad H0 H1 σ G ε := fun e he d H2 S y hd hx => h e he d H2 S (x.trans y) hd hx
theorem ew_mono {φ' : PyData → Prop} (h : EW K cs W te G φ ε) (m : ∀ x, φ x → φ' x) : EW K cs W te G φ' ε := fun Wd B ad H0 H σ S Q q x => h Wd B ad H0 H σ S Q (fun y hy => q y (m y hy)) x
theorem aw_mono {α' : List PyData → Prop} {ta : TA} (h : AW K cs W ta G α ε) (m : ∀ x, α x → α' x) : AW K cs W ta G α' ε := fun Wd B ad H0 H σ S Q q x => h Wd B ad H0 H σ S Q (fun y hy => q y (m y hy)) x
theorem tw_mono {ψ' : Bool → Prop} (h : TW K cs W t G ψ ε) (m : ∀ x, ψ x → ψ' x) : TW K cs W t G ψ' ε := fun Wd B ad H0 H σ S Q q x => h Wd B ad H0 H σ S Q (fun y hy => q y (m y hy)) x
/-! ### values -/
theorem ew_var {i : Nat} {x : PyData} (h : G[i]? = some (.d x)) (p : φ x) : EW K cs W (tVar i) G φ ε := fun Wd B ad H0 H σ S Q q _ => by
  obtain ⟨o, h1, v, rfl, h2⟩ := S.at_ i _ h
  exact ⟨v, h1, q x p v H S Xb.refl h2⟩
theorem ew_glob {v : V} {x : PyData} (h : ∀ H, Dp K H v x) (p : φ x) : EW K cs W (tC v) G φ ε := fun Wd B ad H0 H σ S Q q _ => q x p _ H S Xb.refl (h _)
theorem ew_int {i : Int} (p : φ (.int i)) : EW K cs W (tC (.int i)) G φ ε := ew_glob (fun _ => .int i) p
theorem ew_bl {b : Bool} (p : φ (.bool b)) : EW K cs W (tC (.bl b)) G φ ε := ew_glob (fun _ => .bl b) p
theorem ew_str {b : Str} (p : φ (.str b)) : EW K cs W (tC (.str b)) G φ ε := ew_glob (fun _ => .str b) p
theorem ew_non (p : φ .none) : EW K cs W (tC .non) G φ ε := ew_glob (fun _ => .non) p
/-! ### arguments, displays -/
theorem aw_nil (p : α []) : AW K cs W tNil G α ε := fun Wd B ad H0 H σ S Q q _ => q _ p _ H S Xb.refl .nil
theorem aw_cons {tr : TA} (h : EW K cs W ta G (fun x => AW K cs W tr G (fun xs => α (x :: xs)) ε) ε) : AW K cs W (tCons ta tr) G α ε := fun Wd B ad H0 H σ S Q q x =>
  h Wd B ad H0 H σ S _ (fun x1 p1 v H1 S1 e1 d1 => p1 Wd B ad H0 H1 σ S1 _ (fun xs p2 vs H2 S2 e2 d2 => q _ p2 _ H2 S2 (e1.trans e2) (.cons (dp_mono (Xb.lz e2) d1) d2)) (x.go e1)) x
theorem ew_ef (h : EF K cs W te G (fun c => ∃ xs, c = ol xs ∧ φ (.list xs)) ε) : EW K cs W te G φ ε := fun Wd B ad H0 H σ S Q q x =>
  h Wd B ad H0 H σ S _ (fun c p a vs H2 S2 e2 hn d => by
    obtain ⟨xs, rfl, p⟩ := p
    obtain ⟨S3, e3, g⟩ := new_ex (o := .lst vs) S2 hn
    exact q _ p _ _ S3 (e2.trans e3) (.lst (sq_of g) (dpa_mono (Xb.lz e3) d))) x
theorem ew_tup {ta : TA} (h : AW K cs W ta G (fun xs => xs.length ≤ 16000000 ∧ φ (.tuple xs)) ε) : EW K cs W (tTup ta) G φ ε := fun Wd B ad H0 H σ S Q q x =>
  h Wd B ad H0 H σ S _ (fun xs p vs H1 S1 e1 d1 => ⟨by rw [dpa_len d1]; exact sz_line p.1, fun a ha => by
    obtain ⟨S2, e2, g⟩ := new_ex (o := .tup vs) S1 ha
    exact q _ p.2 _ _ S2 (e1.trans e2) (.tup (st_of g) (dpa_mono (Xb.lz e2) d1))⟩) x
theorem ef_lst {ta : TA} (h : AW K cs W ta G (fun xs => xs.length ≤ 16000000 ∧ χ (ol xs)) ε) : EF K cs W (tLst ta) G χ ε := fun Wd B ad H0 H σ S Q q x =>
  h Wd B ad H0 H σ S _ (fun xs p vs H1 S1 e1 d1 => ⟨by rw [dpa_len d1]; exact sz_line p.1, fun a ha => q _ p.2 a vs H1 S1 e1 ha d1⟩) x
theorem ew_lst {ta : TA} (h : AW K cs W ta G (fun xs => xs.length ≤ 16000000 ∧ φ (.list xs)) ε) : EW K cs W (tLst ta) G φ ε := ew_ef (ef_lst (aw_mono h fun xs p => ⟨p.1, xs, rfl, p.2⟩))
/-! ### operators -/
theorem ew_op {r : R2} (h : EW K cs W ta G (fun x => EW K cs W tb G (fun y => ∀ Wd B ad H0 H σ v w, Sta K Wd B ad H0 H σ G → Dp K (less H (Zs Wd B ad G)) v x → Dp K (less H (Zs Wd B ad G)) w y → ∀ Q : VK, (∀ z, φ z → ∀ v H2, Sta K Wd B ad H0 H2 σ G → Xb B H H2 → Dp K (less H2 (Zs Wd B ad G)) v z → Q v H2) → r v w H Q) ε) ε) : EW K cs W (tOp r ta tb) G φ ε := fun Wd B ad H0 H σ S Q q x =>
  h Wd B ad H0 H σ S _ (fun x1 p1 v H1 S1 e1 d1 => p1 Wd B ad H0 H1 σ S1 _ (fun y p2 w H2 S2 e2 d2 => p2 Wd B ad H0 H2 σ v w S2 (dp_mono (Xb.lz e2) d1) d2 Q fun z p v H3 S3 e3 d3 => q z p v H3 S3 ((e1.trans e2).trans e3) d3) (x.go e1)) x
theorem ew_I0 {g : Int → Int → V} {f : Int → Int → PyData} (hg : ∀ i j H, Dp K H (g i j) (f i j)) (h : EW K cs W ta G (fun x => ∃ i, x = .int i ∧ EW K cs W tb G (fun y => ∃ j, y = .int j ∧ φ (f i j)) ε) ε) : EW K cs W (tOp (rI0 g) ta tb) G φ ε :=
  ew_op (ew_mono h fun x ⟨i, e, h⟩ => ew_mono h fun y ⟨j, e2, p⟩ => fun Wd B ad H0 H σ v w S d1 d2 Q q => by
    subst e; subst e2
    cases d1; cases d2
    exact ⟨i, j, rfl, rfl, q _ p _ H S Xb.refl (hg i j _)⟩)
theorem ew_I {C : Int → Int → Prop} {g : Int → Int → V} {f : Int → Int → PyData} (hg : ∀ i j H, Dp K H (g i j) (f i j)) (h : EW K cs W ta G (fun x => ∃ i, x = .int i ∧ EW K cs W tb G (fun y => ∃ j, y = .int j ∧ C i j ∧ φ (f i j)) ε) ε) : EW K cs W (tOp (rI C g) ta tb) G φ ε :=
  ew_op (ew_mono h fun x ⟨i, e, h⟩ => ew_mono h fun y ⟨j, e2, c, p⟩ => fun Wd B ad H0 H σ v w S d1 d2 Q q => by
    subst e; subst e2
    cases d1; cases d2
    exact ⟨i, j, rfl, rfl, c, q _ p _ H S Xb.refl (hg i j _)⟩)
theorem ew_add (h : EW K cs W ta G (fun x => ∃ i, x = .int i ∧ EW K cs W tb G (fun y => ∃ j, y = .int j ∧ φ (.int (i + j))) ε) ε) : EW K cs W (tOp rAddI ta tb) G φ ε := by unfold rAddI; exact ew_I0 (f := fun i j => .int (i + j)) (fun _ _ _ => .int _) h
theorem ew_pow (h : EW K cs W ta G (fun x => ∃ i, x = .int i ∧ EW K cs W tb G (fun y => ∃ j, y = .int j ∧ CPow i j ∧ φ (.int (i ^ j.toNat))) ε) ε) : EW K cs W (tOp rPowI ta tb) G φ ε := by unfold rPowI; exact ew_I (f := fun i j => .int (i ^ j.toNat)) (fun _ _ _ => .int _) h
theorem ew_lt (h : EW K cs W ta G (fun x => ∃ i, x = .int i ∧ EW K cs W tb G (fun y => ∃ j, y = .int j ∧ φ (.bool (decide (i < j)))) ε) ε) : EW K cs W (tOp rLtI ta tb) G φ ε := by unfold rLtI; exact ew_I0 (f := fun i j => .bool (decide (i < j))) (fun _ _ _ => .bl _) h
theorem ew_gt (h : EW K cs W ta G (fun x => ∃ i, x = .int i ∧ EW K cs W tb G (fun y => ∃ j, y = .int j ∧ φ (.bool (decide (j < i)))) ε) ε) : EW K cs W (tOp rGtI ta tb) G φ ε := by unfold rGtI; exact ew_I0 (f := fun i j => .bool (decide (j < i))) (fun _ _ _ => .bl _) h
theorem ew_ge (h : EW K cs W ta G (fun x => ∃ i, x = .int i ∧ EW K cs W tb G (fun y => ∃ j, y = .int j ∧ φ (.bool (decide (j ≤ i)))) ε) ε) : EW K cs W (tOp rGeI ta tb) G φ ε := by unfold rGeI; exact ew_I0 (f := fun i j => .bool (decide (j ≤ i))) (fun _ _ _ => .bl _) h
theorem ew_neg (h : EW K cs W ta G (fun x => ∃ i, x = .int i ∧ φ (.int (-i))) ε) : EW K cs W (tUn rNegI ta) G φ ε := by
 unfold rNegI
 exact fun Wd B ad H0 H σ S Q q x => h Wd B ad H0 H σ S _ (fun y ⟨i, e, p⟩ v H1 S1 e1 d1 => by
    subst e
    cases d1
    exact ⟨i, rfl, q _ p _ H1 S1 e1 (.int _)⟩) x
/-- == of scalars -/
noncomputable def scEq : PyData → PyData → Option Bool
  | .int i, .int j => some (decide (i = j))
  | .str i, .str j => some (decide (i = j))
  | .bool i, .bool j => some (decide (i = j))
  | .none, .none => some true
  | _, _ => none
theorem sc_eq {H : Hp} {v w : V} {x y : PyData} {b : Bool} (d1 : Dp K H v x) (d2 : Dp K H w y) (h : scEq x y = some b) : scal v w = true ∧ decide (v = w) = b := by
  cases d1 <;> cases d2 <;> first | (cases h; done) | skip
  · cases h; exact ⟨rfl, rfl⟩
  · cases h; exact ⟨rfl, by simp⟩
  · cases h; exact ⟨rfl, by simp⟩
  · cases h; exact ⟨rfl, by simp⟩
theorem ew_eq (h : EW K cs W ta G (fun x => EW K cs W tb G (fun y => ∃ b, scEq x y = some b ∧ φ (.bool b)) ε) ε) : EW K cs W (tOp rEq ta tb) G φ ε :=
  ew_op (ew_mono h fun x h => ew_mono h fun y ⟨b, e, p⟩ => fun Wd B ad H0 H σ v w S d1 d2 Q q => by
    obtain ⟨h1, h2⟩ := sc_eq d1 d2 e
    exact ⟨h1, by rw [h2]; exact q _ p _ H S Xb.refl (.bl _)⟩)
theorem ew_ne (h : EW K cs W ta G (fun x => EW K cs W tb G (fun y => ∃ b, scEq x y = some b ∧ φ (.bool (!b))) ε) ε) : EW K cs W (tOp rNe ta tb) G φ ε :=
  ew_op (ew_mono h fun x h => ew_mono h fun y ⟨b, e, p⟩ => fun Wd B ad H0 H σ v w S d1 d2 Q q => by
    obtain ⟨h1, h2⟩ := sc_eq d1 d2 e
    exact ⟨h1, by rw [h2]; exact q _ p _ H S Xb.refl (.bl _)⟩)
theorem ew_isNo (h : EW K cs W ta G (fun x => φ (.bool (isNoneD x))) ε) : EW K cs W (tOp rIsNo ta (tC .non)) G φ ε :=
  ew_op (ew_mono h fun x p => ew_non fun Wd B ad H0 H σ v w S d1 d2 Q q => by
    cases d2
    exact ⟨rfl, by rw [dp_none d1]; exact q _ p _ H S Xb.refl (.bl _)⟩)
theorem ew_chain {r r' : R2} {f f' : Int → Int → Bool} (hr : ∀ i j H Q, Q (V.bl (f i j)) H → r (.int i) (.int j) H Q) (hr' : ∀ i j H Q, Q (V.bl (f' i j)) H → r' (.int i) (.int j) H Q)
    (h : EW K cs W ta G (fun x => ∃ i, x = .int i ∧ EW K cs W tb G (fun y => ∃ j, y = .int j ∧ Cnd (f i j) (EW K cs W tc G (fun z => ∃ k, z = .int k ∧ φ (.bool (f' j k))) ε) (φ (.bool false))) ε) ε) : EW K cs W (tChain r r' ta tb tc) G φ ε := fun Wd B ad H0 H σ S Q q x =>
  h Wd B ad H0 H σ S _ (fun x1 ⟨i, ei, p1⟩ v H1 S1 e1 d1 => p1 Wd B ad H0 H1 σ S1 _ (fun y ⟨j, ej, p2⟩ w H2 S2 e2 d2 => by
    subst ei; subst ej
    cases d1; cases d2
    refine hr i j H2 _ ⟨f i j, rfl, ?_⟩
    cases hf : f i j with
    | false => exact q _ (p2.2 hf) _ H2 S2 (e1.trans e2) (.bl _)
    | true =>
      refine p2.1 hf Wd B ad H0 H2 σ S2 _ (fun z ⟨k, ek, p3⟩ u H3 S3 e3 d3 => ?_) ((x.go e1).go e2)
      subst ek
      cases d3
      exact hr' j k H3 _ (q _ p3 _ H3 S3 ((e1.trans e2).trans e3) (.bl _))) (x.go e1)) x
theorem ew_leLe (h : EW K cs W ta G (fun x => ∃ i, x = .int i ∧ EW K cs W tb G (fun y => ∃ j, y = .int j ∧ Cnd (decide (i ≤ j)) (EW K cs W tc G (fun z => ∃ k, z = .int k ∧ φ (.bool (decide (j ≤ k)))) ε) (φ (.bool false))) ε) ε) : EW K cs W (tChain rLeI rLeI ta tb tc) G φ ε :=
  ew_chain (fun i j H Q q => by unfold rLeI; exact ⟨i, j, rfl, rfl, q⟩) (fun i j H Q q => by unfold rLeI; exact ⟨i, j, rfl, rfl, q⟩) h
end
end U.N

end
section
/-! zip of two things, each a list or a tuple, strict or not. -/
namespace U
open PySem PySem.W PyProof.Rows L2 Evl
section
variable {prog : Program} {w : World} {A : Around} {E : Value → Shared → Prop} {s : Shared}
end
end U

end
section
/-! zip(a, b, strict=True) and zip(a, b): the end, the making. -/
namespace U
open PySem PySem.W PyProof.Rows L2 Evl
section
variable {prog : Program} {w : World} {A : Around} {E : Value → Shared → Prop} {s : Shared}
/-! ### the making -/
end
section
variable {prog : Program} {w : World} {A : Around} {E : Value → Shared → Prop} {s : Shared}
end
end U

end
section
namespace U
open PySem PySem.W PyProof.Rows L2 Evl
section
variable {prog : Program} {w : World} {A : Around} {E : Value → Shared → Prop} {s : Shared}
end
end U

end
section
namespace U
open PySem PySem.W PyProof.Rows L2 Evl
section
variable {prog : Program} {w : World} {A : Around} {E : Value → Shared → Prop} {s : Shared}
end
section
variable {M : Model} {A : Around} {E : Value → Shared → Prop} {s : Shared}
end
section
variable {X : Cx} {e e2 : Expr} {ta : TA} {p pos tpos kpos cpos : Pos} {elts : List Expr} {kk cn : Nat}
end
end U

end
section
/-! try with several clauses, each with a name -/
namespace U
open PySem PySem.Spec PyProof.Rows L2
noncomputable abbrev Hd := Value × Nat × (Addr → Value → Option Addr → TS)
section
variable {X : Cx} {body : List Stmt} {h₀ : ExceptHandler} {hds : List ExceptHandler} {l : List Hd} {pos : Pos} {tb : WX → TS} {Wout : WX}
end
end U

end
section
/-! Dicts whose keys are tuples, nested ones too: by what they hold. -/
namespace U
open PySem PySem.Spec PyProof.Rows L2 Evl
noncomputable abbrev NK := NestedKey
mutual
/-- data as keys -/
noncomputable def toK : PyData → Option NK
  | .none => some .none
  | .int i => some (.num i)
  | .str x => some (.text x)
  | .tuple xs => (toKs xs).map .tup
  | _ => none
noncomputable def toKs : List PyData → Option (List NK)
  | [] => some []
  | x :: xs => (toK x).bind fun k => (toKs xs).map (k :: ·)
end
section
variable {X : Cx} {pins : List (Addr × Obj)} {σ : L2.St} {H : Hp} {s : Shared}
mutual
theorem nk_is (I : Inv X pins σ H s) : ∀ {x : PyData} {v : V} {u : Value} {k : NK}, Dp X.K H v x → RelV v u → toK x = some k → NestedIs s.heap k u
  | _, _, _, _, .non, r, e => by cases e; cases r; exact .none
  | _, _, _, _, .bl b, r, e => by cases e
  | _, _, _, _, .int i, r, e => by
    cases e
    obtain ⟨t, rfl⟩ := r
    exact .int i t
  | _, _, _, _, .str x, r, e => by
    cases e
    obtain ⟨t, rfl⟩ := r
    exact .text x t
  | _, _, _, _, .lst h t, r, e => by cases e
  | .tuple xs, _, _, _, .tup h t, r, e => by
    have e : (toKs xs).map NestedKey.tup = some _ := e
    obtain ⟨ks, hks, rfl⟩ := Option.map_eq_some_iff.mp e
    cases r
    obtain ⟨its, rv, ⟨o, h1, h2, n, h3⟩, _⟩ := I.tuple h
    exact .tup h1 h2 h3 (by rw [List.toList_toArray]; exact nk_all I t rv hks)
theorem nk_all (I : Inv X pins σ H s) : ∀ {xs : List PyData} {vs : List V} {us : List Value} {ks : List NK}, DpAll X.K H vs xs → Vals vs us → toKs xs = some ks → NestedAll s.heap ks us
  | _, _, _, _, .nil, r, e => by cases e; cases r; exact .nil
  | x :: xs, _, _, _, .cons h t, r, e => by
    have e : ((toK x).bind fun k => (toKs xs).map (k :: ·)) = some _ := e
    obtain ⟨k, hk, e⟩ := Option.bind_eq_some_iff.mp e
    obtain ⟨ks, hks, rfl⟩ := Option.map_eq_some_iff.mp e
    cases r with
    | cons a b => exact .cons (nk_is I h a hk) (nk_all I t b hks)
end
end
noncomputable abbrev Ent := NK × Addr × V
section
variable {X : Cx} {pins : List (Addr × Obj)} {σ : L2.St} {H : Hp} {s : Shared} {a b : Addr} {ep : Nat} {es : List Ent} {k : NK}
/-! ### {}, d[k], d[k] = v, d.get(k, x) -/
end
end U

end
section
/-! Dicts with tuple keys: walked, and made by a comprehension. -/
namespace U
open PySem PySem.Spec PyProof.Rows L2 Evl
section
variable {P : Program} {w : World} {K : Fg} {tg : Expr} {d : Addr} {ep : Nat} {es : List Ent}
end
section
variable {X : Cx} {tg e : Expr} {td : TE}
end
section
variable {X : Cx} {pins : List (Addr × Obj)} {σ : L2.St} {H : Hp} {s : Shared}
end
section
variable {X : Cx}
end
end U

end
section
/-! sorted(xs) of data that compare, sorted(d) of a dict with such keys. -/
namespace U
open PySem PySem.Spec PyProof.Rows L2 Evl
section
variable {X : Cx} {pins : List (Addr × Obj)} {σ : L2.St} {H : Hp} {s : Shared}
end
end U

end
section
/-! x in a list or a tuple of data of any depth. -/
namespace U
open PySem PySem.Spec PyProof.Rows L2 Evl
section
variable {X : Cx}
end
end U

end
section
/-! enumerate of a list or a tuple. -/
namespace U
open PySem PySem.W PyProof.Rows L2 Evl
section
variable {prog : Program} {w : World} {A : Around} {E : Value → Shared → Prop} {s : Shared}
end
end U

end
section
/-! list comprehensions of two and three clauses. -/
namespace U
open PySem PySem.Spec PyProof.Rows L2
/-- what a clause's rest does to the list at D -/
noncomputable abbrev TCl := Addr → St → Hp → (Hp → Prop) → Prop
section
variable {X : Cx} {own : List Nat} {D : Addr}
end
section
variable {X : Cx}
end
/-! ### the clauses' own loops -/
section
variable {prog : Program} {w : World} {A : Around} {env : Env} {D : Addr} {c elt t0 i0 i1 : Expr} {i : Nat} {ifs0 : List Expr}
end
section
variable {elt t0 i0 t1 i1 t2 i2 : Expr} {ifs0 ifs1 ifs2 : List Expr} {scope : Scope} {pos : Pos}
variable {prog : Program} {w : World} {A : Around} {env : Env} {D : Addr}
end
/-! ### the rules for use -/
section
variable {X : Cx} {elt tg iter tg1 iter1 tg2 iter2 : Expr} {ifs ifs1 ifs2 : List Expr} {scope : Scope} {own : List (Str × Nat)} {pos : Pos} {wi wi1 wi2 : TI} {g g1 g2 : TG} {tt tt1 tt2 : TT} {te : TE} {vs1 vs2 : List Nat}
end
end U

end
section
/-! first, *rest = a list or a tuple. -/
namespace U
open PySem PySem.W PyProof.Rows L2 Evl
section
variable {prog : Program} {w : World} {A : Around} {E : Value → Shared → Prop} {s : Shared}
end
/-! ### a call with keywords that may raise -/
section
variable {X : Cx} {CX : CXT} {k n : Nat} {f : Addr} {fd : FuncData} {ps ks : List Str} {sp : Sp} {E : St → XK} {x : Str} {p pos : Pos} {e : Expr} {es : List Expr} {kws : List Keyword} {t tk : TA} {g : List Value → List Value → List Value} {gV : List V → List V → List V}
end
end U

end
section
namespace U
open PySem PyProof.Rows L2 Evl
section
variable {X : Cx}
end
end U

end
section
/-! isinstance of a caught exception of an own class that has a dict. -/
namespace U
open PySem PyProof.Rows L2 Evl
/-- what the class says of its instances' class -/
structure IsX (K : Fg) (C : Addr) : Prop where
  ha : PySem.W.findIn K (.ref C) "__class__" = some (some (.builtin "object.__class__"))
  hn : PySem.W.specialIn K (.builtin "object.__class__") "__get__" = some (some (.builtin "getset_descriptor.__get__"))
  ht : PySem.W.takesIn K (.builtin "object.__class__") = some true
  hm : PySem.W.mroIn K C (.type "object") = some true
noncomputable def rIsD (K : Fg) (a : Addr) (cls : Value) (d : Option Addr) (C : Addr) : List V → Hp → VK → Prop := fun xs H Q => ∃ (c dd : Addr) (fs : List (Str × V)) (b : Bool), xs = [.ref a, .ref c] ∧ cls = .ref C ∧ d = some dd ∧ H dd = some (.xd fs) ∧ PySem.W.kitOne K (.ref C) (.ref c) = some b ∧ Q (.bl b) H
theorem call_isD {X : Cx} {a C : Addr} {oe : Obj} {cls : Value} {d : Option Addr} {pn : List (Addr × Obj)} (T : XfC X.K C) (S : IsX X.K C) (hz : Zc cls d oe) (hf : ∃ vs, oe.data = .fields vs) : CallR (X.suite a ((a, oe) :: pn)) (.builtin "isinstance") (rIsD X.K a cls d C) := by
  intro pins s σ H xs us Q I r h
  obtain ⟨c, dd, fs, b, rfl, ec, ed, eH, ek, q⟩ := h
  subst ec
  subst ed
  cases r with
  | cons rx rr =>
    cases rr with
    | cons rt rr =>
      cases rr
      cases rx
      cases rt
      have at0 := (I.pin (a, oe) (List.mem_append_left _ List.mem_cons_self)).1
      obtain ⟨vs, hd⟩ := hf
      have hx : ObjOk X.prog X.w H s.heap dd (.xd fs) := I.hok dd _ eH
      obtain ⟨mA, hns, _⟩ := hx
      obtain ⟨od, ho, _⟩ := lookIn_ns hns
      have J : PySem.W.InstAt s.heap a oe C (some od) := ⟨at0, hz.1, by unfold PySem.W.notCls; rw [hd] <;> rfl, by rw [hz.2]; exact ho⟩
      have hcl : (PySem.W.clsIn X.K C).isSome = true := by
        obtain ⟨cd, hc, _⟩ := PySem.W.any_some T.hdC
        rw [hc]
        rfl
      exact PySem.W.kia_one (PySem.W.kitx_exc hcl T.ga T.gg T.exC S.ha S.hn S.ht S.hm) I.kIn J ek (fun z => nomatch z) fun tk => ⟨.bl b, H, I.kept (t' := tk) fun _ _ z => z, rfl, q⟩
end U

end
section
namespace U
open PySem PyProof.Rows L2 Evl
section
variable {X : Cx}
end
end U

end
section
namespace U
open PySem PyProof.Rows L2 Evl
section
variable {X : Cx} {pos : Pos}
end
end U

end
section
namespace U
open PySem PyProof.Rows L2 Evl
local macro_rules | `(tactic| walk_at "ev1") => `(tactic| first
  | exact ev_int | exact ev_bl | exact ev_str | exact ev_non | exact ev_var rfl | exact ea_nil | exact eo_none
  | with_reducible apply ev_ixDisp | with_reducible apply ev_fst | with_reducible apply ev_snd
  | with_reducible apply ev_add | with_reducible apply ev_sub | with_reducible apply ev_mul | with_reducible apply ev_fdiv | with_reducible apply ev_mod | with_reducible apply ev_pow
  | with_reducible apply ev_lt | with_reducible apply ev_le | with_reducible apply ev_gt | with_reducible apply ev_ge
  | with_reducible apply ev_eqI | with_reducible apply ev_neI
  | with_reducible apply ev_neg | with_reducible apply ev_subB | with_reducible apply ev_isNo | with_reducible apply ev_noNo
  | with_reducible apply ev_not | with_reducible apply et_test | with_reducible apply et_B | with_reducible apply et_not
  | with_reducible apply ev_abs | with_reducible apply ev_max | with_reducible apply ev_min | with_reducible apply ev_intB
  | with_reducible apply ev_gcd | with_reducible apply ev_frac | with_reducible apply ev_fadd | with_reducible apply ev_sign | with_reducible apply ev_cmpF
  | with_reducible apply ev_pull rfl
  | with_reducible apply ev_like
  | with_reducible apply ev_tup | with_reducible apply ev_lst | with_reducible apply ea_cons | with_reducible apply eo_some
  | with_reducible apply ev_order | exact ev_part rfl | exact ev_far rfl | exact ev_farPart rfl
  | (with_reducible show List.length _ ≤ 16000000; (simp; done)) | (with_reducible show (0 : Int) < _; decide) | (with_reducible show (_ : Int) < 1000000000000; decide) | (with_reducible show CPow _ _; (unfold CPow; decide)) | (with_reducible show CNz _ _; (unfold CNz; decide))
  | with_reducible apply sg_ret | with_reducible apply sg_asg | with_reducible apply sg_next)
local macro_rules | `(tactic| walk_at "ln") => `(tactic| first | walk_at "ev1" | with_reducible apply sg_seq)
section

/-! ### part -/
theorem fdiv_neg2 (a g : Int) : a.fdiv (-g) = (-a).fdiv g := by
  have h := Int.neg_fdiv_neg (-a) g
  rw [Int.neg_neg] at h
  exact h
section
variable {K : Fg} {cs : Cs} {W : WX} {G : Gam} {s s1 s2 s' : Bag} {ta tb te : TE} {x y : PyData} {E : St → XK}
end
section
variable {K : Fg} {cs : Cs}
-- slots of part: 0 above, 1 below, 2 divisor
-- slots of told01: 0 _law_above, 1 _law_below, 2 why
end

end
section

theorem fdiv_pos {c g : Int} (hg : 0 < g) (h : g ≤ c) : 0 < c.fdiv g := by
  rw [Int.fdiv_eq_ediv_of_nonneg _ (Int.le_of_lt hg)]
  have : 1 ≤ c / g := Int.le_ediv_of_mul_le hg (by omega)
  omega
theorem gI_le_right {a b : Int} (hb : b ≠ 0) : gI a b ≤ (b.natAbs : Int) := qt_of (by simp (disch := with_unfolding_all
  unfold gI gN
  have h1 : 0 < b.natAbs := Int.natAbs_pos.mpr hb
  have h2 := Nat.gcd_le_right (m := a.natAbs) (n := b.natAbs) h1
  have : max (Nat.gcd a.natAbs b.natAbs) 1 ≤ b.natAbs := Nat.max_le.mpr ⟨h2, h1⟩
  omega
  ) only [↓qt_eq])
theorem fracF_pos {a b : Int} (hb : b ≠ 0) : 0 < (fracF a b).2 := qt_of (by simp (disch := with_unfolding_all
  have hg := gI_pos a b
  have hl := gI_le_right (a := a) hb
  unfold fracF
  by_cases h : b < 0
  · show 0 < b.fdiv (if b < 0 then -gI a b else gI a b)
    rw [if_pos h, fdiv_neg2]
    exact fdiv_pos hg (by omega)
  · rw [if_neg h]
    exact fdiv_pos hg (by omega)
  ) only [↓qt_eq])
theorem partOf_pos (s : Bag) : 0 < (partOf s).2 := qt_of (by simp (disch := with_unfolding_all
  obtain ⟨y1, y2⟩ := pullV_range (pullS s 13) (n := 4) (by decide)
  have hm := menu_mem (l := [1, 1, 2, 3]) y1 y2
  refine fracF_pos ?_
  generalize menu _ _ = m at hm
  simp only [List.mem_cons, List.not_mem_nil, or_false] at hm
  omega
  ) only [↓qt_eq])
theorem farPartOf_pos (s : Bag) : 0 < (farPartOf s).2 := by
  refine fracF_pos ?_
  unfold absI
  split <;> omega
section
variable {K : Fg} {cs : Cs} {W : WX} {G : Gam} {s s1 s2 s' : Bag} {ta tb te : TE} {x y : PyData} {E : St → XK} {E' : XK} {p q : Fr}
-- slots of plus: 0 one, 1 other
-- slots of minus: 0 one, 1 other
-- slots of times: 0 one, 1 other
-- slots of over: 0 one, 1 other
-- slots of middle: 0 one, 1 other
-- slots of _law_sub: 0 _law_one, 1 _law_other
-- slots of _law_mul: 0 _law_one, 1 _law_other
-- slots of _law_div: 0 _law_one, 1 _law_other
-- slots of told03: 0 _law_one, 1 _law_other, 2 why
end

end
section

/-! ### fractions in lowest terms -/
theorem gI_dvd_left {a b : Int} (hb : b ≠ 0) : ∃ c, a = gI a b * c := qt_of (by simp (disch := with_unfolding_all
  have e : gI a b = (Nat.gcd a.natAbs b.natAbs : Nat) := by
    unfold gI gN
    have : 0 < Nat.gcd a.natAbs b.natAbs := Nat.gcd_pos_of_pos_right _ (Int.natAbs_pos.mpr hb)
    have : max (Nat.gcd a.natAbs b.natAbs) 1 = Nat.gcd a.natAbs b.natAbs := Nat.max_eq_left this
    omega
  rw [e]
  exact Int.ofNat_dvd_left.mpr (Nat.gcd_dvd_left _ _)
  ) only [↓qt_eq])
theorem gI_dvd_right {a b : Int} (hb : b ≠ 0) : ∃ c, b = gI a b * c := qt_of (by simp (disch := with_unfolding_all
  have e : gI a b = (Nat.gcd a.natAbs b.natAbs : Nat) := by
    unfold gI gN
    have : 0 < Nat.gcd a.natAbs b.natAbs := Nat.gcd_pos_of_pos_right _ (Int.natAbs_pos.mpr hb)
    have : max (Nat.gcd a.natAbs b.natAbs) 1 = Nat.gcd a.natAbs b.natAbs := Nat.max_eq_left this
    omega
  rw [e]
  exact Int.ofNat_dvd_left.mpr (Nat.gcd_dvd_right _ _)
  ) only [↓qt_eq])
/-- fracF by its factor -/
theorem fracF_spec {a b : Int} (hb : b ≠ 0) : ∃ k : Int, k ≠ 0 ∧ a = k * (fracF a b).1 ∧ b = k * (fracF a b).2 ∧ k.natAbs = Nat.gcd a.natAbs b.natAbs := qt_of (by simp (disch := with_unfolding_all
  have hg := gI_pos a b
  have hn : gI a b = (Nat.gcd a.natAbs b.natAbs : Nat) := by
    unfold gI gN
    have : 0 < Nat.gcd a.natAbs b.natAbs := Nat.gcd_pos_of_pos_right _ (Int.natAbs_pos.mpr hb)
    have : max (Nat.gcd a.natAbs b.natAbs) 1 = Nat.gcd a.natAbs b.natAbs := Nat.max_eq_left this
    omega
  obtain ⟨c, hc⟩ := gI_dvd_left (a := a) hb
  obtain ⟨d, hd⟩ := gI_dvd_right (a := a) hb
  have fd : ∀ (g x : Int), g ≠ 0 → (g * x).fdiv g = x := fun g x h => Int.mul_fdiv_cancel_left x h
  unfold fracF
  by_cases h : b < 0
  · rw [if_pos h]
    refine ⟨-gI a b, by omega, ?_, ?_, by rw [Int.natAbs_neg, hn, Int.natAbs_natCast]⟩
    · have : a = -gI a b * -c := by rw [Int.neg_mul_neg]; exact hc
      show a = -gI a b * a.fdiv (-gI a b)
      have e := fd (-gI a b) (-c) (by omega)
      rw [← this] at e
      rw [e]; exact this
    · have : b = -gI a b * -d := by rw [Int.neg_mul_neg]; exact hd
      show b = -gI a b * b.fdiv (-gI a b)
      have e := fd (-gI a b) (-d) (by omega)
      rw [← this] at e
      rw [e]; exact this
  · rw [if_neg h]
    refine ⟨gI a b, by omega, ?_, ?_, by rw [hn, Int.natAbs_natCast]⟩
    · show a = gI a b * a.fdiv (gI a b)
      have e := fd (gI a b) c (by omega)
      rw [← hc] at e
      rw [e]; exact hc
    · show b = gI a b * b.fdiv (gI a b)
      have e := fd (gI a b) d (by omega)
      rw [← hd] at e
      rw [e]; exact hd
  ) only [↓qt_eq])
theorem fracF_low {a b : Int} (hb : b ≠ 0) : gI (fracF a b).1 (fracF a b).2 = 1 := qt_of (by simp (disch := with_unfolding_all
  obtain ⟨k, hk, h1, h2, h3⟩ := fracF_spec (a := a) hb
  have hpos : 0 < k.natAbs := Int.natAbs_pos.mpr hk
  generalize (fracF a b).1 = x at *
  generalize (fracF a b).2 = y at *
  have : Nat.gcd (k * x).natAbs (k * y).natAbs = k.natAbs * Nat.gcd x.natAbs y.natAbs := by
    rw [Int.natAbs_mul, Int.natAbs_mul, Nat.gcd_mul_left]
  rw [← h1, ← h2, ← h3] at this
  have g1 : Nat.gcd x.natAbs y.natAbs = 1 := Nat.eq_of_mul_eq_mul_left hpos (by rw [← this, Nat.mul_one])
  unfold gI gN
  rw [g1]
  rfl
  ) only [↓qt_eq])
theorem fracF_isPart {a b : Int} (hb : b ≠ 0) : isPart (fr (fracF a b)) = true := by
  show (decide (0 < (fracF a b).2) && decide (gI (fracF a b).1 (fracF a b).2 = 1)) = true
  rw [decide_eq_true (fracF_pos hb), decide_eq_true (fracF_low hb)]
  rfl
theorem partOf_isPart (s : Bag) : isPart (fr (partOf s)) = true := qt_of (by simp (disch := with_unfolding_all
  obtain ⟨y1, y2⟩ := pullV_range (pullS s 13) (n := 4) (by decide)
  have hm := menu_mem (l := [1, 1, 2, 3]) y1 y2
  refine fracF_isPart ?_
  generalize menu _ _ = m at hm
  simp only [List.mem_cons, List.not_mem_nil, or_false] at hm
  omega
  ) only [↓qt_eq])
/-! ### spots -/
section
variable {K : Fg} {cs : Cs} {W : WX} {G : Gam} {s s1 s2 s' : Bag} {ta tb te : TE} {x y : PyData} {E : XK}
-- slots of is_spot: 0 thing, 1 room, 2 one
-- slots of _law_spot: 0 _law_bag_here, 1 _law_rank, 2 _law_at
end

end
end U
end
section
namespace U
open PySem PyProof.Rows L2 Evl
/-! ### fractions as rational numbers -/
structure Gd (n : Nat) (p : Fr) : Prop where
  sz : Sz n p
  pos : 0 < p.2
  low : gI p.1 p.2 = 1
theorem partOf_gd (s : Bag) : Gd 10 (partOf s) := qt_of (by simp (disch := with_unfolding_all
  refine ⟨partOf_sz s, partOf_pos s, ?_⟩
  have h := partOf_isPart s
  have h : (decide (0 < (partOf s).2) && decide (gI (partOf s).1 (partOf s).2 = 1)) = true := h
  exact of_decide_eq_true (Bool.and_eq_true_iff.mp h).2
  ) only [↓qt_eq])
theorem farPartOf_gd (s : Bag) : Gd 63 (farPartOf s) := by
  refine ⟨farPartOf_sz s, farPartOf_pos s, fracF_low ?_⟩
  unfold absI
  split <;> omega
/-! ### signs -/
end U

end
section
namespace U
open PySem PyProof.Rows L2 Evl
local macro_rules | `(tactic| walk_at "ev1") => `(tactic| first
  | exact ev_int | exact ev_bl | exact ev_str | exact ev_non | exact ev_var rfl | exact ea_nil | exact eo_none
  | with_reducible apply ev_ixDisp | with_reducible apply ev_fst | with_reducible apply ev_snd
  | with_reducible apply ev_add | with_reducible apply ev_sub | with_reducible apply ev_mul | with_reducible apply ev_fdiv | with_reducible apply ev_mod | with_reducible apply ev_pow
  | with_reducible apply ev_lt | with_reducible apply ev_le | with_reducible apply ev_gt | with_reducible apply ev_ge
  | with_reducible apply ev_eqI | with_reducible apply ev_neI
  | with_reducible apply ev_neg | with_reducible apply ev_subB | with_reducible apply ev_isNo | with_reducible apply ev_noNo
  | with_reducible apply ev_not | with_reducible apply et_test | with_reducible apply et_B | with_reducible apply et_not
  | with_reducible apply ev_abs | with_reducible apply ev_max | with_reducible apply ev_min | with_reducible apply ev_intB
  | with_reducible apply ev_gcd | with_reducible apply ev_frac | with_reducible apply ev_fadd | with_reducible apply ev_sign | with_reducible apply ev_cmpF
  | with_reducible apply ev_pull rfl
  | with_reducible apply ev_like
  | with_reducible apply ev_tup | with_reducible apply ev_lst | with_reducible apply ea_cons | with_reducible apply eo_some
  | with_reducible apply ev_order | exact ev_part rfl | exact ev_far rfl | exact ev_farPart rfl
  | (with_reducible show List.length _ ≤ 16000000; (simp; done)) | (with_reducible show (0 : Int) < _; decide) | (with_reducible show (_ : Int) < 1000000000000; decide) | (with_reducible show CPow _ _; (unfold CPow; decide)) | (with_reducible show CNz _ _; (unfold CNz; decide))
  | with_reducible apply sg_ret | with_reducible apply sg_asg | with_reducible apply sg_next)
local macro_rules | `(tactic| walk_at "ln") => `(tactic| first | walk_at "ev1" | with_reducible apply sg_seq)
section

/-! ### rows of fractions -/
section
variable {K : Fg} {cs : Cs} {W : WX} {G : Gam} {s s1 s2 s3 s' : Bag} {ta tb tc te : TE} {x y : PyData} {E : XK}
/-! step_from, across, side_of -/
-- slots of step_from: 0 one, 1 other, 2 first, 3 second
-- slots of across: 0 one, 1 other
-- slots of side_of: 0 start, 1 end, 2 spot
/-! ### the law's own -/
-- slots of _law_hom: 0 _law_spot_here
-- slots of _law_det: 0 _law_one, 1 _law_two, 2 _law_three, 3 _law_first, 4 _law_second
-- slots of _law_turn: 0 _law_one, 1 _law_two, 2 _law_three
-- slots of _law_along: 0 _law_one, 1 _law_two, 2 _law_share, 3 _law_steps, 4 _law_at
end

end
section

section
variable {K : Fg} {cs : Cs} {W : WX} {G : Gam} {s s1 s2 s3 s4 s' : Bag} {ta tb tc td te : TE} {x y : PyData} {E : XK} {E2 : St → XK}
-- slots of gone: 0 spot, 1 step, 2 many, 3 first, 4 second
/-! crossing -/
-- slots of crossing: 0 start, 1 end, 2 other_start, 3 other_end, 4 step, 5 other_step, 6 span, 7 many
-- slots of told09: 0 _law_one, 1 _law_two, 2 _law_three, 3 _law_four, 4 why
/-! the law's own -/
-- slots of _law_mid: 0 _law_one, 1 _law_two, 2 _law_at
-- slots of _law_lowest: 0 _law_one, 1 _law_number
-- slots of _law_right: 0 _law_found, 1 _law_one, 2 _law_two, 3 _law_three, 4 _law_four, 5 _law_first, 6 _law_second
end

end
section

/-! ### lists or tuples -/
noncomputable def itemsOf : PyData → Option (List PyData)
  | .list xs => some xs
  | .tuple xs => some xs
  | _ => none
theorem items_cases {x : PyData} {xs : List PyData} (h : itemsOf x = some xs) : x = .list xs ∨ x = .tuple xs := by
  cases x <;> first | cases h | skip
  · exact .inl rfl
  · exact .inr rfl
section
variable {K : Fg} {cs : Cs} {gs : Gs} {W : WX} {G : Gam} {s s1 s2 s3 s' : Bag} {ta tb tc te : TE} {x y : PyData} {E : XK} {xs : List PyData}
/-! ### maps -/
-- slots of map_of: 0 rows, 1 row, 2 one
end

end
section

section
variable {K : Fg} {cs : Cs} {gs : Gs} {W : WX} {G : Gam} {s s1 s2 s3 s' : Bag} {ta tb tc te : TE} {x y : PyData} {E : XK} {xs : List PyData}
-- slots of still: 0 room
-- slots of straightened: 0 way, 1 row
/-! ### drawn maps -/
-- slots of _law_whole_part: 0 _law_bag_here
-- slots of _law_entry: 0 _law_bag_here
-- slots of _law_map: 0 _law_bag_here, 1 _law_start, 2 _law_goal, 3 _law_row, 4 _law_at
-- slots of told15: 0 _law_rows, 1 why
end

end
end U
end
section
namespace U
open PySem PyProof.Rows L2 Evl
section
variable {K : Fg} {cs : Cs} {gs : Gs} {W : WX} {G GI G1 : Gam} {s s1 s2 s3 s' : Bag} {ta tb tc te : TE} {x y : PyData} {E : XK} {xs : List PyData}
end
end U


end
section
namespace U.N
open PySem PyProof.Rows L2 Evl
section
variable {K : Fg} {cs : Cs} {W : WX} {G G' G1 G2 : Gam} {ta tb tc te : TE} {t u : TT} {φ : PyData → Prop} {ε : Xw → Prop} {ψ : Bool → Prop} {α : List PyData → Prop} {ι : List PyData → Prop} {χ : Own → Prop} {ω : Option Int → Prop}
variable {Wd : Addr → Prop} {B : Option (Addr × Addr)} {ad : Nat → Addr} {H0 H H1 H2 : Hp} {σ : St}
/-! ### items -/
/-- an item of a list or a tuple -/
theorem ew_ix (h : EW K cs W ta G (fun x => ∃ xs, itemsOf x = some xs ∧ EW K cs W tb G (fun y => ∃ j, y = .int j ∧ ∃ z, atI xs j = some z ∧ φ z) ε) ε) : EW K cs W (tOp (rIx K) ta tb) G φ ε :=
  ew_op (ew_mono h fun x ⟨xs, e, h⟩ => ew_mono h fun y ⟨j, e2, z, hz, p⟩ => fun Wd B ad H0 H σ v w S d1 d2 Q q => by
    subst e2
    cases d2
    rcases items_cases e with rfl | rfl
    · cases d1 with
      | lst g t =>
        obtain ⟨v, g1, g2⟩ := dpa_atI t hz
        exact .inl ⟨_, _, j, v, rfl, rfl, ex_l less_ex g, g1, q _ p _ H S Xb.refl g2⟩
    · cases d1 with
      | tup g t =>
        obtain ⟨v, g1, g2⟩ := dpa_atI t hz
        exact .inr (.inl ⟨_, _, j, v, rfl, rfl, ex_t less_ex g, g1, q _ p _ H S Xb.refl g2⟩))
/-! ### tests -/
theorem tw_test (h : EW K cs W te G (fun x => ∃ b, x = .bool b ∧ ψ b) ε) : TW K cs W (tTest te) G ψ ε := fun Wd B ad H0 H σ S Q q x => h Wd B ad H0 H σ S _ (fun y ⟨b, e, p⟩ v H1 S1 e1 d1 => by
  subst e
  cases d1
  exact ⟨b, rfl, q b p H1 S1 e1⟩) x
theorem tw_B (h : EW K cs W te G (fun x => ∃ b, x = .bool b ∧ ψ b) ε) : TW K cs W (tB te) G ψ ε := tw_test h
theorem tw_yes (h : ψ true) : TW K cs W tYes G ψ ε := fun Wd B ad H0 H σ S Q q x => q true h H S Xb.refl
theorem tw_not (h : TW K cs W t G (fun b => ψ (!b)) ε) : TW K cs W (tNot t) G ψ ε := fun Wd B ad H0 H σ S Q q x => h Wd B ad H0 H σ S _ (fun b p => q (!b) p) x
theorem tw_and (h : TW K cs W t G (fun b => Cnd b (TW K cs W u G ψ ε) (ψ false)) ε) : TW K cs W (tAnd t u) G ψ ε := fun Wd B ad H0 H σ S Q q x => h Wd B ad H0 H σ S _ (fun b p H1 S1 e1 => by
  cases b with
  | true => exact iteT (p.1 rfl Wd B ad H0 H1 σ S1 _ (fun b p H2 S2 e2 => q b p H2 S2 (e1.trans e2)) (x.go e1))
  | false => exact iteF (q _ (p.2 rfl) H1 S1 e1)) x
theorem tw_or (h : TW K cs W t G (fun b => Cnd b (ψ true) (TW K cs W u G ψ ε)) ε) : TW K cs W (tOr t u) G ψ ε := fun Wd B ad H0 H σ S Q q x => h Wd B ad H0 H σ S _ (fun b p H1 S1 e1 => by
  cases b with
  | false => exact iteF (p.2 rfl Wd B ad H0 H1 σ S1 _ (fun b p H2 S2 e2 => q b p H2 S2 (e1.trans e2)) (x.go e1))
  | true => exact iteT (q _ (p.1 rfl) H1 S1 e1)) x
theorem ew_if (h : TW K cs W t G (fun b => Cnd b (EW K cs W ta G φ ε) (EW K cs W tb G φ ε)) ε) : EW K cs W (tIf t ta tb) G φ ε := fun Wd B ad H0 H σ S Q q x => h Wd B ad H0 H σ S _ (fun b p H1 S1 e1 => by
  cases b with
  | true => exact iteT (p.1 rfl Wd B ad H0 H1 σ S1 _ (fun b p v H2 S2 e2 d2 => q b p v H2 S2 (e1.trans e2) d2) (x.go e1))
  | false => exact iteF (p.2 rfl Wd B ad H0 H1 σ S1 _ (fun b p v H2 S2 e2 d2 => q b p v H2 S2 (e1.trans e2) d2) (x.go e1))) x
/-! ### promises -/
inductive Rs where
  | ok (x : PyData)
  | fl (c : Own)
  | er (e : Xw)
noncomputable abbrev Pr := List PyData → (Rs → Prop) → Prop
noncomputable def okRs (H : Hp) (K : Fg) (Wd : Addr → Prop) (Q : VK) (A : Rs → Prop) : Prop :=
  (∀ x, A (.ok x) → ∀ v H', Ex H H' → Dp K (less H' Wd) v x → Q v H') ∧
  (∀ c, A (.fl c) → ∀ a vs H', Ex H H' → H a = none → H' a = some (c.obj a vs) → DpAll K (less H' fun b => Wd b ∨ b = a) vs c.flat → Q (.ref a) H')
/-- a def that never raises -/
noncomputable def spW0 (K : Fg) (P : Pr) : Sp := fun vs H Q _ => ∃ (Wd : Addr → Prop) (ds : List PyData) (A : Rs → Prop), (∀ a, Wd a → ∃ o, H a = some o) ∧ DpAll K (less H Wd) vs ds ∧ P ds A ∧ okRs H K Wd Q A
/-- a def that may raise -/
noncomputable def spW (K : Fg) (cs : Cs) (P : Pr) : Sp := fun vs H Q E => ∃ (Wd : Addr → Prop) (ds : List PyData) (A : Rs → Prop), (∀ a, Wd a → ∃ o, H a = some o) ∧ DpAll K (less H Wd) vs ds ∧ P ds A ∧ okRs H K Wd Q A ∧
  ∀ e, A (.er e) → ∀ d H', Ex H H' → H d = none → H' d = some (.xd e.fs) → E (.ref (cs e.cls)) (some d) H'
/-- what is wanted of a call's answer -/
noncomputable def rE (φ : PyData → Prop) (ε : Xw → Prop) : Rs → Prop
  | .ok x => φ x
  | .fl c => ∃ xs, c = ol xs ∧ φ (.list xs)
  | .er e => ε e
theorem fl_upd {a : Addr} {o : HO} (h : H a = some o) : upd (less H fun b => b = a) a o = H := by
  funext b
  by_cases e : b = a
  · rw [e, upd_same, h]
  · rw [upd_ne e]; exact less_no (Z := fun b => b = a) e
theorem less_less {Z Z' : Addr → Prop} : less (less H Z) Z' = less H fun b => Z b ∨ Z' b := qt_of (by simp (disch := with_unfolding_all
  funext b
  by_cases z' : Z' b
  · rw [less_yes z', less_yes (.inr z')]
  · rw [less_no z']
    by_cases z : Z b
    · rw [less_yes z, less_yes (.inl z)]
    · rw [less_no z, less_no (fun h => h.elim z z')]
  ) only [↓qt_eq])
/-- the answer of a call, a new thing: what stood before stands without it -/
theorem fl_go {a : Addr} {o : HO} (S : Sta K Wd B ad H0 H σ G) (e : Xb B H H2) (b : BagOk H2 B) (hn : H a = none) (ho : H2 a = some o) : Sta K Wd B ad H0 (less H2 fun b => b = a) σ G ∧ Xb B H (less H2 fun b => b = a) ∧ (less H2 fun b => b = a) a = none ∧ (less (less H2 fun b => b = a) (Zs Wd B ad G)) = less H2 (fun b => Zs Wd B ad G b ∨ b = a) := qt_of (by simp (disch := with_unfolding_all
  have x : Xb B H (less H2 fun b => b = a) := fun p u h n => less_of (fun z => by rw [z, hn] at h; cases h) (e p u h n)
  have nb : ¬ InB B a := (S.fresh hn).2.1
  refine ⟨S.drawn x (b.xb fun p z => less_no fun e => nb (e ▸ z)), x, less_yes rfl, ?_⟩
  rw [less_less]
  exact congrArg (less H2) (funext fun b => propext Or.comm)
  ) only [↓qt_eq])
theorem ew_callP {P : List PyData → PyData → Prop} {ta : TA} {dvs : List V} {des : List PyData} {E : XK} (hd : ∀ H, DpAll K H dvs des) (h : AW K cs W ta G (fun ds => ∃ r, P (ds ++ des) r ∧ φ r) ε) : EW K cs W (tCall (spP K P) dvs E ta) G φ ε := fun Wd B ad H0 H σ S Q q x =>
  h Wd B ad H0 H σ S _ (fun ds ⟨r, hp, p⟩ vs H1 S1 e1 d1 => ⟨Zs Wd B ad G, ds ++ des, r, S1.there, dpa_app d1 (hd _), hp, fun v H' e d => q r p v H' (S1.ext e) (e1.trans (.of e)) d⟩) x
theorem bag_zl {b c : Addr} (H : Hp) : (less H fun a => (Wd a ∨ ∃ i c, G[i]? = some (En.ow c) ∧ a = ad i) ∨ InB (some (b, c)) a) = less H (Zs Wd (some (b, c)) ad G) := congrArg (less H) (funext fun a => propext or_assoc)
theorem ew_callB {P : Bag → List PyData → PyData → Bag → Prop} {tr : TA} {i : Nat} {E : XK} (hi : G[i]? = some .bag) (h : AW K cs W tr G (fun ds => ∀ s : Bag, s.ok → ∃ r s', P s ds r s' ∧ s'.ok ∧ φ r) ε) : EW K cs W (tCall (spB K P) [] E (tCons (tVar i) tr)) G φ ε := fun Wd B ad H0 H σ S Q q x => by
  obtain ⟨o, g1, b, c, rfl, rfl⟩ := S.at_ i _ hi
  refine ⟨_, g1, h Wd _ ad H0 H σ S _ (fun ds hp vs H1 S1 e1 d1 => ?_) x⟩
  obtain ⟨s, ok, hb⟩ := S1.bag
  obtain ⟨r, s', hp, ok', p⟩ := hp s ok
  refine ⟨fun a => Wd a ∨ ∃ i c, G[i]? = some (En.ow c) ∧ a = ad i, b, c, vs, s, ds, r, s', fun a z => S1.there a (or_assoc.mp (.inl z)), ?_, hb, ?_, hp, fun v H' e hb d => ?_⟩
  · rw [List.append_nil]
  · rw [bag_zl]; exact d1
  · rw [bag_zl] at d
    exact q r p v H' (S1.drawn e ⟨s', ok', hb⟩) (e1.trans e) d
section
variable {P : Pr} {ta : TA} {dvs : List V} {des : List PyData} {E : XK}
theorem ew_call0 (hd : ∀ H, DpAll K H dvs des) (h : AW K cs W ta G (fun ds => P (ds ++ des) (rE φ fun _ => False)) ε) : EW K cs W (tCall (spW0 K P) dvs E ta) G φ ε := fun Wd B ad H0 H σ S Q q x =>
  h Wd B ad H0 H σ S _ (fun ds hp vs H1 S1 e1 d1 => ⟨Zs Wd B ad G, ds ++ des, _, S1.there, dpa_app d1 (hd _), hp, fun y p v H' e d => q y p v H' (S1.ext e) (e1.trans (.of e)) d, fun c p a us H' e hn ho d => by
    obtain ⟨xs, rfl, p⟩ := p
    have S2 := S1.ext e
    refine q _ p _ H' S2 (e1.trans (.of e)) (.lst (sq_of (less_of (S1.fresh hn).2.2 ho)) (dpa_mono (less_sub fun b z => .inl z) d))⟩) x
theorem ew_callW (hd : ∀ H, DpAll K H dvs des) (h : AW K cs W ta G (fun ds => P (ds ++ des) (rE φ ε)) ε) : EW K cs W (tCallSD (spW K cs P) dvs (WE W) ta) G φ ε := fun Wd B ad H0 H σ S Q q x =>
  h Wd B ad H0 H σ S _ (fun ds hp vs H1 S1 e1 d1 => ⟨Zs Wd B ad G, ds ++ des, _, S1.there, dpa_app d1 (hd _), hp, ⟨fun y p v H' e d => q y p v H' (S1.ext e) (e1.trans (.of e)) d, fun c p a us H' e hn ho d => by
    obtain ⟨xs, rfl, p⟩ := p
    have S2 := S1.ext e
    refine q _ p _ H' S2 (e1.trans (.of e)) (.lst (sq_of (less_of (S1.fresh hn).2.2 ho)) (dpa_mono (less_sub fun b z => .inl z) d))⟩, fun e p d H' e2 hn hx => x e p d H' (S1.ext e2) (e1.trans (.of e2)) (S1.fresh hn).1 (less_of (S1.fresh hn).2.2 hx)⟩) x
theorem ew_callN0 {tk : TA} {n m : Nat} (h : AW K cs W ta G (fun ds => AW K cs W tk G (fun es => ds.length = n ∧ es.length = m ∧ P (ds ++ es) (rE φ fun _ => False)) ε) ε) : EW K cs W (tCallN n m (spW0 K P) (fun vs zs => vs ++ zs) E ta tk) G φ ε := fun Wd B ad H0 H σ S Q q x =>
  h Wd B ad H0 H σ S _ (fun ds h2 vs H1 S1 e1 d1 => h2 Wd B ad H0 H1 σ S1 _ (fun es ⟨hn, hm, hp⟩ zs H2 S2 e2 d2 =>
    ⟨(dpa_len d1).trans hn, (dpa_len d2).trans hm, Zs Wd B ad G, ds ++ es, _, S2.there, dpa_app (dpa_mono (Xb.lz e2) d1) d2, hp, fun y p v H' e d => q y p v H' (S2.ext e) ((e1.trans e2).trans (.of e)) d, fun c p a us H' e hn ho d => by
      obtain ⟨xs, rfl, p⟩ := p
      exact q _ p _ H' (S2.ext e) ((e1.trans e2).trans (.of e)) (.lst (sq_of (less_of (S2.fresh hn).2.2 ho)) (dpa_mono (less_sub fun b z => .inl z) d))⟩) (x.go e1)) x
end
/-! ### built-ins -/
theorem ew_cb {r : List V → Hp → VK → Prop} {ta : TA} (h : AW K cs W ta G (fun xs => ∀ Wd B ad H0 H σ vs, Sta K Wd B ad H0 H σ G → DpAll K (less H (Zs Wd B ad G)) vs xs → ∀ Q : VK, (∀ z, φ z → ∀ v H2, Sta K Wd B ad H0 H2 σ G → Xb B H H2 → Dp K (less H2 (Zs Wd B ad G)) v z → Q v H2) → r vs H Q) ε) : EW K cs W (tCB r ta) G φ ε := fun Wd B ad H0 H σ S Q q x =>
  h Wd B ad H0 H σ S _ (fun xs p vs H1 S1 e1 d1 => p Wd B ad H0 H1 σ vs S1 d1 Q fun z p v H2 S2 e2 d2 => q z p v H2 S2 (e1.trans e2) d2) x
noncomputable def AllB (xs : List PyData) (b : Bool) : Prop := ∃ bs : List Bool, xs = [.list (bs.map PyData.bool)] ∧ b = bs.all id
theorem ew_all {ta : TA} (h : AW K cs W ta G (fun xs => ∃ b, AllB xs b ∧ φ (.bool b)) ε) : EW K cs W (tCB (rAll K) ta) G φ ε := ew_cb (aw_mono h fun xs ⟨b, ⟨bs, e, eb⟩, p⟩ Wd B ad H0 H σ vs S d Q q => by
  subst e
  subst eb
  obtain ⟨v, rfl, d1⟩ := dp1 d
  cases d1 with
  | lst g t =>
    have e := dpa_bools t
    subst e
    exact ⟨_, bs, rfl, ex_l less_ex g, q _ p _ H S Xb.refl (.bl _)⟩)
/-! ### slices, joins -/
theorem ow_none (p : ω none) : OW K cs W tNoPart G ω ε := fun Wd B ad H0 H σ S Q q _ => q _ p H S Xb.refl
theorem ow_some (h : EW K cs W te G (fun x => ∃ i, x = .int i ∧ ω (some i)) ε) : OW K cs W (tPart te) G ω ε := fun Wd B ad H0 H σ S Q q x => h Wd B ad H0 H σ S _ (fun y ⟨i, e, p⟩ v H1 S1 e1 d1 => by
  subst e
  cases d1
  exact ⟨i, rfl, q _ p H1 S1 e1⟩) x
/-! ### in, of whole numbers -/
end
end U.N

end
section
namespace U.N
open PySem PyProof.Rows L2 Evl
/-! ### statements -/
noncomputable def sq (K : Fg) (cs : Cs) (W : WX) (tz : TS) (Φ : Out → Prop) : Out → Prop
  | .nx G => SW K cs W tz G Φ
  | .rt x => Φ (.rt x)
  | .rl c => Φ (.rl c)
  | .bk G => Φ (.bk G)
  | .ct G => Φ (.ct G)
  | .ex e G => Φ (.ex e G)
/-- what a turn of a loop may end with -/
noncomputable def lp (I : Gam → Prop) (Φ : Out → Prop) : Out → Prop
  | .nx G => I G
  | .ct G => I G
  | .bk G => Φ (.nx G)
  | .rt x => Φ (.rt x)
  | .rl c => Φ (.rl c)
  | .ex e G => Φ (.ex e G)
section
variable {K : Fg} {cs : Cs} {W : WX} {G G' G1 G2 : Gam} {ta tb tc te : TE} {t u : TT} {tu tw tz : TS} {φ : PyData → Prop} {ε : Xw → Prop} {ψ : Bool → Prop} {α : List PyData → Prop} {ι : List PyData → Prop} {χ : Own → Prop} {Φ Ψ : Out → Prop}
variable {Wd : Addr → Prop} {B : Option (Addr × Addr)} {ad : Nat → Addr} {H0 H H1 H2 : Hp} {σ : St}
theorem PostO.mono {M M' : Hp} {D : Ends} {o : Out} (e : Ex M M') (h : PostO K cs W Wd B H0 M D o) : PostO K cs W Wd B H0 M' D o := qt_of (by simp (disch := with_unfolding_all
  cases o with
  | nx G => exact fun ad H σ S x => h ad H σ S (e.trans x)
  | rt x => exact h
  | rl c => exact h
  | bk G => exact fun ad H σ S x => h ad H σ S (e.trans x)
  | ct G => exact fun ad H σ S x => h ad H σ S (e.trans x)
  | ex e' G => exact fun d ad H σ S x => h d ad H σ S (e.trans x)
  ) only [↓qt_eq])
theorem post_xp {D : Ends} (q : ∀ o, Φ o → PostO K cs W Wd B H0 (less H (Zs Wd B ad G)) D o) : XP K cs W Wd B ad H0 H σ G (fun e => Φ (.ex e G)) := fun e he d H2 S x hd hx => q _ he d ad H2 σ S (Xb.lz x) hd hx
theorem sw_mono (h : SW K cs W tu G Φ) (m : ∀ o, Φ o → Ψ o) : SW K cs W tu G Ψ := fun Wd B ad H0 H σ D S q => h Wd B ad H0 H σ D S fun o p => q o (m o p)
theorem sw_seq (h : SW K cs W tu G (sq K cs W tz Φ)) : SW K cs W (tSeq tu tz) G Φ := fun Wd B ad H0 H σ D S q =>
  h Wd B ad H0 H σ { D with nx := tz D } S fun o p => by
    cases o with
    | nx G1 => exact fun ad' H' σ' S' e => p Wd B ad' H0 H' σ' D S' fun o p => (q o p).mono e
    | rt x => exact q _ p
    | rl c => exact q _ p
    | bk G => exact q _ p
    | ct G => exact q _ p
    | ex e G => exact q _ p
theorem sq_nx (h : SW K cs W tz G Φ) : sq K cs W tz Φ (.nx G) := h
theorem sq_rt {x : PyData} (h : Φ (.rt x)) : sq K cs W tz Φ (.rt x) := h
theorem lp_nx {I : Gam → Prop} (h : I G) : lp I Φ (.nx G) := h
theorem sw_next (h : Φ (.nx G)) : SW K cs W tNext G Φ := fun Wd B ad H0 H σ D S q => q _ h ad H σ S (Ex.refl _)
theorem sw_asg {i : Nat} (h : EW K cs W te G (fun x => Φ (.nx (G.set i (.d x)))) (fun e => Φ (.ex e G))) : SW K cs W (tAsg te (gName i)) G Φ := fun Wd B ad H0 H σ D S q =>
  h Wd B ad H0 H σ S _ (fun x p v H1 S1 e1 d1 => q _ p ad H1 _ (S1.setD d1) ((Xb.lz e1).trans (less_sub fun a z => Zs.set_of (fun _ z => by cases z) z))) (post_xp q)
theorem sw_ret (h : EW K cs W te G (fun x => Φ (.rt x)) (fun e => Φ (.ex e G))) : SW K cs W (tRet te) G Φ := fun Wd B ad H0 H σ D S q =>
  h Wd B ad H0 H σ S _ (fun x p v H1 S1 e1 d1 => q _ p v H1 S1.base S1.bag (dp_mono (less_sub fun a z => z.elim .inl fun z => .inr (.inr z)) d1)) (post_xp q)
theorem sw_if (h : TW K cs W t G (fun b => Cnd b (SW K cs W tu G Φ) (SW K cs W tw G Φ)) (fun e => Φ (.ex e G))) : SW K cs W (tIfS t tu tw) G Φ := fun Wd B ad H0 H σ D S q =>
  h Wd B ad H0 H σ S _ (fun b p H1 S1 e1 => by
    cases b with
    | true => exact iteT (p.1 rfl Wd B ad H0 H1 σ D S1 fun o p => (q o p).mono (Xb.lz e1))
    | false => exact iteF (p.2 rfl Wd B ad H0 H1 σ D S1 fun o p => (q o p).mono (Xb.lz e1))) (post_xp q)
/-! ### lists of one's own -/
/-! ### what is forgotten -/
/-! ### targets -/
/-- targets that only set names: vs tells which -/
noncomputable def GC (K : Fg) (g : TG) (vs : List Nat) (G : Gam) (x : PyData) (γ : Gam → Prop) : Prop :=
  ∀ Wd B ad H0 H σ v, Sta K Wd B ad H0 H σ G → Dp K (less H (Zs Wd B ad G)) v x → ∀ Q : St → Hp → Prop,
  (∀ G' σ', γ G' → G.length = G'.length → (∀ i, i ∉ vs → G'[i]? = G[i]?) → (∀ i c, i ∈ vs → G'[i]? = some (.ow c) → G[i]? = some (.ow c)) → Sta K Wd B ad H0 H σ' G' → Ex (less H (Zs Wd B ad G)) (less H (Zs Wd B ad G')) → wipe σ' vs = wipe σ vs → Q σ' H) → g v σ H Q
variable {γ : Gam → Prop} {vs : List Nat}
theorem gc_name {i : Nat} {x : PyData} (hi : i ∈ vs) (h : γ (G.set i (.d x))) : GC K (gName i) vs G x γ := fun Wd B ad H0 H σ v S d Q q => by
  refine q _ _ h (by rw [List.length_set]) (fun j hj => List.getElem?_set_ne fun (e : i = j) => hj (by rw [← e]; exact hi)) (fun j c _ g => ?_) (S.setD d) (less_sub fun a z => Zs.set_of (fun _ z => by cases z) z) (wipe_set hi)
  rcases get_set g with ⟨rfl, _, e⟩ | ⟨_, g⟩
  · cases e
  · exact g
/-- targets at large -/
noncomputable def GW (K : Fg) (g : TG) (G : Gam) (x : PyData) (γ : Gam → Prop) : Prop :=
  ∀ Wd B ad H0 H σ v, Sta K Wd B ad H0 H σ G → Dp K (less H (Zs Wd B ad G)) v x → ∀ Q : St → Hp → Prop,
  (∀ G' ad' H' σ', γ G' → Sta K Wd B ad' H0 H' σ' G' → Ex (less H (Zs Wd B ad G)) (less H' (Zs Wd B ad' G')) → Q σ' H') → g v σ H Q
theorem gw_gc (vs : List Nat) {g : TG} {x : PyData} (h : GC K g vs G x γ) : GW K g G x γ := fun Wd B ad H0 H σ v S d Q q => h Wd B ad H0 H σ v S d Q fun G' σ' p _ _ _ S' e _ => q G' ad H σ' p S' e
theorem gw_name {i : Nat} {x : PyData} (h : γ (G.set i (.d x))) : GW K (gName i) G x γ := gw_gc [i] (gc_name (List.mem_singleton.mpr rfl) h)
theorem sw_asgT {g : TG} (h : EW K cs W te G (fun x => GW K g G x (fun G' => Φ (.nx G'))) (fun e => Φ (.ex e G))) : SW K cs W (tAsg te g) G Φ := fun Wd B ad H0 H σ D S q =>
  h Wd B ad H0 H σ S _ (fun x p v H1 S1 e1 d1 => p Wd B ad H0 H1 σ v S1 d1 _ fun G' ad' H' σ' p S' e' => q _ p ad' H' σ' S' ((Xb.lz e1).trans e')) (post_xp q)
/-! ### what is walked -/
theorem dp_itL {v : V} {ds : List PyData} {M : Hp} (d : Dp K M v (.list ds)) : ∃ a vs, v = .ref a ∧ SqL K M a vs ∧ ItOk K (Itl K a) ds M := qt_of (by simp (disch := with_unfolding_all
  cases d with
  | @lst a vs _ g t =>
    refine ⟨a, vs, rfl, g, fun H' Z hz e i => ?_⟩
    have g' : SqL K H' a vs := ex_l less_ex (ex_l e g)
    refine ⟨fun d hd => ?_, fun hl => ⟨vs, g', by rw [dpa_len t]; exact hl⟩, fun x H'' hy => ?_⟩
    · obtain ⟨v, hv, _⟩ := dpa_get t hd
      exact ⟨vs, v, g', hv⟩
    · obtain ⟨rfl, hy⟩ := hy
      refine ⟨Ex.refl _, fun d hd => ?_⟩
      obtain ⟨v, hv, hd⟩ := dpa_get t hd
      have ev : v = x := Option.some.inj (hv.symm.trans (hy vs g'))
      rw [← ev]
      exact dp_mono e hd
  ) only [↓qt_eq])
theorem iw_list (h : EW K cs W te G (fun x => ∃ ds, x = .list ds ∧ ι ds) ε) : IW K cs W (iList K te) G ι ε := fun Wd B ad H0 H σ S R q x => h Wd B ad H0 H σ S _ (fun y ⟨ds, e, p⟩ v H1 S1 e1 d1 => by
  subst e
  obtain ⟨a, vs, rfl, g, ok⟩ := dp_itL d1
  exact ⟨a, rfl, ⟨vs, ex_l less_ex g⟩, q ds p _ H1 S1 e1 ok⟩) x
theorem iw_rng1 {ta : TA} (h : AW K cs W ta G (fun xs => ∃ n : Int, xs = [.int n] ∧ (-1000000 ≤ n ∧ n ≤ 1000000) ∧ ι (rngD 0 n.toNat)) ε) : IW K cs W (iRng1 ta) G ι ε := fun Wd B ad H0 H σ S R q x => h Wd B ad H0 H σ S _ (fun xs ⟨n, e, hn, p⟩ vs H1 S1 e1 d1 => by
  subst e
  obtain ⟨v, rfl, d⟩ := dp1 d1
  cases d
  exact ⟨n, rfl, by omega, by omega, q _ p _ H1 S1 e1 it_rng⟩) x
/-! ### loops -/
/-- what is asked of a loop over ds: an invariant of the turn and the slots -/
noncomputable def ForI (K : Fg) (cs : Cs) (W : WX) (g : TG) (tb : TS) (G : Gam) (Φ : Out → Prop) (ds : List PyData) : Prop :=
  ∃ I : Nat → Gam → Prop, I 0 G ∧ (∀ i x G1, ds[i]? = some x → I i G1 → GW K g G1 x (fun Gt => SW K cs W tb Gt (lp (I (i + 1)) Φ))) ∧ ∀ G1, I ds.length G1 → Φ (.nx G1)
theorem sw_for {wi : TI} {g : TG} {tb : TS} (h : IW K cs W wi G (ForI K cs W g tb G Φ) (fun e => Φ (.ex e G))) : SW K cs W (tFor wi g tb) G Φ := fun Wd B ad H0 H σ D S q =>
  h Wd B ad H0 H σ S _ (fun ds ⟨I, i0, hs, hd⟩ J H1 S1 e1 ok => by
    refine ⟨fun i m σ' H' => m = ds.length - i ∧ i ≤ ds.length ∧ ∃ ad' G1, I i G1 ∧ Sta K Wd B ad' H0 H' σ' G1 ∧ Ex (less H1 (Zs Wd B ad G)) (less H' (Zs Wd B ad' G1)), ⟨ds.length, rfl, Nat.zero_le _, ad, G, i0, S1, Ex.refl _⟩, ?_⟩
    rintro i m σ' H' ⟨rfl, hi, ad', G1, hI, S', e'⟩
    obtain ⟨k1, k2, k3⟩ := ok H' (Zs Wd B ad' G1) S'.there e' i
    by_cases hlt : i < ds.length
    · have hx : ds[i]? = some ds[i] := List.getElem?_eq_getElem hlt
      refine .inr ⟨k1 _ hx, fun σ3 H3 => ∃ ad3 G3, I (i + 1) G3 ∧ Sta K Wd B ad3 H0 H3 σ3 G3 ∧ Ex (less H1 (Zs Wd B ad G)) (less H3 (Zs Wd B ad3 G3)), ?_, fun v H'' hy => ?_⟩
      · rintro σ3 H3 ⟨ad3, G3, h3, S3, e3⟩
        exact ⟨ds.length - (i + 1), by omega, rfl, hlt, ad3, G3, h3, S3, e3⟩
      · obtain ⟨ex, dx⟩ := k3 v H'' hy
        have S2 := S'.ext ex
        refine hs i _ G1 hx hI Wd B ad' H0 H'' σ' v S2 (dx _ hx) _ fun Gt ad2 H2 σ2 hb S3 e3 => ?_
        have e4 : Ex (less H1 (Zs Wd B ad G)) (less H2 (Zs Wd B ad2 Gt)) := (e'.trans (less_mono ex)).trans e3
        have e5 := (Xb.lz (W := Wd) (ad := ad) (G := G) e1).trans e4
        refine hb Wd B ad2 H0 H2 σ2 _ S3 fun o p => ?_
        cases o with
        | nx G4 => exact fun ad4 H4 σ4 S4 x4 => ⟨ad4, G4, p, S4, e4.trans x4⟩
        | ct G4 => exact fun ad4 H4 σ4 S4 x4 => ⟨ad4, G4, p, S4, e4.trans x4⟩
        | bk G4 => exact fun ad4 H4 σ4 S4 x4 => q _ p ad4 H4 σ4 S4 (e5.trans x4)
        | rt x => exact q _ p
        | rl c => exact q _ p
        | ex e G4 => exact fun d ad4 H4 σ4 S4 x4 => q _ p d ad4 H4 σ4 S4 (e5.trans x4)
    · have en : i = ds.length := by omega
      subst en
      exact .inl ⟨k2 (Nat.le_refl _), q _ (hd G1 hI) ad' H' σ' S' ((Xb.lz e1).trans e')⟩) (post_xp q)
/-- by what is done already -/
theorem forP {β : Type} {g : TG} {tb : TS} {xs : List β} {f : β → PyData} (I : List β → Gam → Prop) (h0 : I [] G) (hs : ∀ pre x post G1, xs = pre ++ x :: post → I pre G1 → GW K g G1 (f x) (fun Gt => SW K cs W tb Gt (lp (I (pre ++ [x])) Φ))) (he : ∀ G1, I xs G1 → Φ (.nx G1)) : ForI K cs W g tb G Φ (xs.map f) := by
  refine ⟨fun i G1 => I (xs.take i) G1, h0, fun i x G1 hx hI => ?_, fun G1 hI => he G1 (by rw [List.length_map, List.take_length] at hI; exact hI)⟩
  rw [List.getElem?_map] at hx
  cases hb : xs[i]? with
  | none => rw [hb] at hx; cases hx
  | some b =>
    rw [hb] at hx
    cases hx
    obtain ⟨hlt, hbe⟩ := List.getElem?_eq_some_iff.mp hb
    have e : xs = xs.take i ++ b :: xs.drop (i + 1) := by rw [← hbe, List.getElem_cons_drop, List.take_append_drop]
    have e2 : xs.take (i + 1) = xs.take i ++ [b] := by rw [List.take_succ, hb]; rfl
    show GW K g G1 (f b) (fun Gt => SW K cs W tb Gt (lp (fun G1 => I (xs.take (i + 1)) G1) Φ))
    rw [e2]
    exact hs _ b _ G1 e hI
end
end U.N

end
section
namespace U.N
open PySem PyProof.Rows L2 Evl
inductive All2 {α β : Type} (R : α → β → Prop) : List α → List β → Prop
  | nil : All2 R [] []
  | cons {x : α} {y : β} {xs : List α} {ys : List β} : R x y → All2 R xs ys → All2 R (x :: xs) (y :: ys)
namespace All2
variable {α β γ : Type} {R : α → β → Prop}
/-- y's that all are of one form -/
theorem exists_map {δ : Type} {g : δ → β} {P : α → δ → Prop} : ∀ {xs : List α} {ys : List β}, All2 (fun x y => ∃ d, y = g d ∧ P x d) xs ys → ∃ ds : List δ, ys = ds.map g ∧ All2 P xs ds
  | _, _, .nil => ⟨[], rfl, .nil⟩
  | _, _, .cons ⟨d, e, p⟩ t => by
    obtain ⟨ds, e2, p2⟩ := t.exists_map
    exact ⟨d :: ds, by rw [e, e2]; rfl, .cons p p2⟩
end All2
section
variable {K : Fg} {cs : Cs} {W : WX} {G G' G1 G2 : Gam} {ta tb tc te : TE} {t u tt tt1 : TT} {φ : PyData → Prop} {ε : Xw → Prop} {ψ : Bool → Prop} {α : List PyData → Prop} {ι : List PyData → Prop} {χ : Own → Prop} {Φ Ψ : Out → Prop}
variable {Wd : Addr → Prop} {B : Option (Addr × Addr)} {ad : Nat → Addr} {H0 H H1 H2 : Hp} {σ σ' : St} {vs vs1 : List Nat} {wi wi1 : TI} {g g1 : TG}
noncomputable abbrev noX : Xw → Prop := fun _ => False
theorem xp_no : XP K cs W Wd B ad H0 H σ G noX := fun _ h => h.elim
theorem Sta.slots (S : Sta K Wd B ad H0 H σ G) (hl : G.length = G'.length) (ho : ∀ i, i ∉ vs → G'[i]? = G[i]?) (hu : ∀ i e, i ∈ vs → G'[i]? = some e → e = .un) (hg : ∀ i c, i ∈ vs → G[i]? ≠ some (.ow c)) (hw : wipe σ vs = wipe σ' vs) : Sta K Wd B ad H0 H σ' G' := qt_of (by simp (disch := with_unfolding_all
  have hls : σ.length = σ'.length := by
    have := congrArg List.length hw
    rw [wipe_length, wipe_length] at this
    exact this
  have own : ∀ (i : Nat) (c : Own), G'[i]? = some (En.ow c) ↔ G[i]? = some (En.ow c) := fun i c => by
    by_cases hi : i ∈ vs
    · exact ⟨fun g => absurd (hu i _ hi g) (fun e => by cases e), fun g => absurd g (hg i c hi)⟩
    · rw [ho i hi]
  have zl : Zs Wd B ad G' = Zs Wd B ad G := funext fun a => propext (by
    constructor
    · rintro (z | ⟨i, c, g, r⟩ | z)
      · exact .inl z
      · exact .inr (.inl ⟨i, c, (own i c).mp g, r⟩)
      · exact .inr (.inr z)
    · rintro (z | ⟨i, c, g, r⟩ | z)
      · exact .inl z
      · exact .inr (.inl ⟨i, c, (own i c).mpr g, r⟩)
      · exact .inr (.inr z))
  refine ⟨hls ▸ (S.len.trans hl), fun i e g => ?_, fun i j c c' g g' q => S.inj i j c c' ((own i c).mp g) ((own j c').mp g') q, fun i c g => S.sep i c ((own i c).mp g), S.base, S.bag, S.wd⟩
  by_cases hi : i ∈ vs
  · have e := hu i e hi g
    subst e
    have il : i < σ'.length := by rw [← hls, S.len, hl]; exact (List.getElem?_eq_some_iff.mp g).1
    exact ⟨σ'[i], List.getElem?_eq_getElem il, trivial⟩
  · rw [ho i hi] at g
    obtain ⟨o, g1, g2⟩ := S.at_ i e g
    refine ⟨o, ?_, by rw [zl]; exact g2⟩
    rw [← wipe_get hi, ← hw, wipe_get hi]
    exact g1
  ) only [↓qt_eq])
theorem zs_same {G' : Gam} (hl : ∀ (i : Nat) (c : Own), G'[i]? = some (En.ow c) ↔ G[i]? = some (En.ow c)) : Zs Wd B ad G' = Zs Wd B ad G := funext fun a => propext (by
  constructor
  · rintro (z | ⟨i, c, g, r⟩ | z)
    · exact .inl z
    · exact .inr (.inl ⟨i, c, (hl i c).mp g, r⟩)
    · exact .inr (.inr z)
  · rintro (z | ⟨i, c, g, r⟩ | z)
    · exact .inl z
    · exact .inr (.inl ⟨i, c, (hl i c).mpr g, r⟩)
    · exact .inr (.inr z))
theorem zs_lend {p : Addr} : Zs (fun a => Wd a ∨ a = p) B ad G = fun a => Zs Wd B ad G a ∨ a = p := funext fun a => propext (by
  constructor
  · rintro ((z | z) | z | z)
    · exact .inl (.inl z)
    · exact .inr z
    · exact .inl (.inr (.inl z))
    · exact .inl (.inr (.inr z))
  · rintro ((z | z | z) | z)
    · exact .inl (.inl z)
    · exact .inr (.inl z)
    · exact .inr (.inr z)
    · exact .inl (.inr z))
noncomputable def opts (os : List (Option PyData)) : List PyData := os.filterMap id
theorem opts_snoc {os : List (Option PyData)} {o : Option PyData} : opts (os ++ [o]) = opts os ++ o.toList := by
  unfold opts
  rw [List.filterMap_append]
  cases o <;> rfl
theorem opts_len (os : List (Option PyData)) : (opts os).length ≤ os.length := List.length_filterMap_le ..
/-- one for each turn -/
noncomputable def Each {β : Type} (R : Nat → β → Prop) (n : Nat) (os : List β) : Prop := os.length = n ∧ ∀ i o, os[i]? = some o → R i o
theorem each_nil {β : Type} {R : Nat → β → Prop} : Each R 0 [] := ⟨rfl, fun i o h => by simp at h⟩
theorem Each.snoc {β : Type} {R : Nat → β → Prop} {n : Nat} {os : List β} {o : β} (h : Each R n os) (r : R n o) : Each R (n + 1) (os ++ [o]) := by
  refine ⟨by simp [h.1], fun i o' hi => ?_⟩
  by_cases hl : i < os.length
  · rw [List.getElem?_append_left hl] at hi
    exact h.2 i o' hi
  · rw [List.getElem?_append_right (by omega)] at hi
    have e : i - os.length = 0 := by
      have := (List.getElem?_eq_some_iff.mp hi).1
      simp at this
      omega
    rw [e] at hi
    cases hi
    have : i = n := by have := h.1; omega
    rw [this]; exact r
theorem Each.all2 {α β : Type} {R : Nat → β → Prop} : ∀ {xs : List α} {os : List β}, Each R xs.length os → ∀ {S : α → β → Prop}, (∀ i x o, xs[i]? = some x → R i o → S x o) → All2 S xs os := fun {xs} => by
  induction xs generalizing R with
  | nil =>
    intro os h S m
    have := h.1
    have e : os = [] := List.eq_nil_of_length_eq_zero this
    rw [e]; exact .nil
  | cons x xs ih =>
    intro os h S m
    cases os with
    | nil => have := h.1; simp at this
    | cons o os =>
      refine .cons (m 0 x o rfl (h.2 0 o rfl)) (ih (R := fun i => R (i + 1)) ⟨by have := h.1; simpa using this, fun i o' hi => h.2 (i + 1) o' hi⟩ fun i x o hx r => m (i + 1) x o hx r)
/-- the names that the comprehension sets are of no use before -/
noncomputable def Unk (vs : List Nat) (G : Gam) : Prop := ∀ i e, i ∈ vs → G[i]? = some e → e = .un
noncomputable def LcI (K : Fg) (cs : Cs) (W : WX) (g : TG) (tt : TT) (te : TE) (vs : List Nat) (G : Gam) (χ : Own → Prop) (ds : List PyData) : Prop :=
  ds.length ≤ 16000000 ∧ Unk vs G ∧ ∃ R : Nat → Option PyData → Prop, (∀ i x, ds[i]? = some x → GC K g vs G x (fun Gt => TW K cs W tt Gt (fun b => Cnd b (EW K cs W te Gt (fun y => R i (some y)) noX) (R i none)) noX)) ∧ ∀ os, Each R ds.length os → χ (ol (opts os))
theorem ef_lc (h : IW K cs W wi G (LcI K cs W g tt te vs G χ) ε) : EF K cs W (tLc wi g tt te vs) G χ ε := fun Wd B ad H0 H σ S Q q x =>
  h Wd B ad H0 H σ S _ (fun ds ⟨hz, hu, R, hs, hd⟩ J H1 S1 e1 ok Dl hD => by
    have hgu : ∀ i c, i ∈ vs → G[i]? ≠ some (.ow c) := fun i c hi g => by cases hu i _ hi g
    obtain ⟨L0, el0⟩ := S1.lend (o := .lst []) hD
    have fr := S1.fresh hD
    refine ⟨fun i m H' => m = ds.length - i ∧ i ≤ ds.length ∧ Sta K (fun a => Wd a ∨ a = Dl) B ad H0 H' σ G ∧ Ex (less H1 (Zs Wd B ad G)) (less H' (Zs (fun a => Wd a ∨ a = Dl) B ad G)) ∧ Xb B H1 H' ∧
      ∃ os acc, Each R i os ∧ H' Dl = some (.lst acc) ∧ DpAll K (less H' (Zs (fun a => Wd a ∨ a = Dl) B ad G)) acc (opts os), ⟨ds.length, rfl, Nat.zero_le _, L0, by rw [el0]; exact Ex.refl _, .of (Ex.new hD), [], [], each_nil, upd_same, .nil⟩, ?_⟩
    rintro i m H' ⟨rfl, hi, S', e', xb, os, acc, ha2, ha, hda⟩
    obtain ⟨k1, k2, k3⟩ := ok H' (Zs (fun a => Wd a ∨ a = Dl) B ad G) S'.there e' i
    by_cases hlt : i < ds.length
    · have hx : ds[i]? = some ds[i] := List.getElem?_eq_getElem hlt
      refine .inr ⟨k1 _ hx, fun H3 => Sta K (fun a => Wd a ∨ a = Dl) B ad H0 H3 σ G ∧ Ex (less H1 (Zs Wd B ad G)) (less H3 (Zs (fun a => Wd a ∨ a = Dl) B ad G)) ∧ Xb B H1 H3 ∧
        ∃ os acc, Each R (i + 1) os ∧ H3 Dl = some (.lst acc) ∧ DpAll K (less H3 (Zs (fun a => Wd a ∨ a = Dl) B ad G)) acc (opts os), fun H3 h3 => ⟨ds.length - (i + 1), by omega, rfl, hlt, h3⟩, fun v H'' hyl => ?_⟩
      obtain ⟨ex, dx⟩ := k3 v H'' hyl
      have S2 := (S'.ext ex).slots (σ' := wipe σ vs) (G' := G) (vs := vs) rfl (fun _ _ => rfl) hu hgu wipe_wipe.symm
      refine hs i _ hx _ B ad H0 H'' _ v S2 (dx _ hx) _ fun Gt σ2 hte hl ho hw S3 e3 ew => ⟨by rw [ew, wipe_wipe], ?_⟩
      have own : ∀ (i : Nat) (c : Own), Gt[i]? = some (En.ow c) ↔ G[i]? = some (En.ow c) := fun i c => by
        by_cases hi : i ∈ vs
        · exact ⟨fun g => hw i c hi g, fun g => absurd g (hgu i c hi)⟩
        · rw [ho i hi]
      have eZ : Zs (fun a => Wd a ∨ a = Dl) B ad Gt = Zs (fun a => Wd a ∨ a = Dl) B ad G := zs_same own
      have back : ∀ {H5 : Hp}, Sta K (fun a => Wd a ∨ a = Dl) B ad H0 H5 σ2 Gt → Sta K (fun a => Wd a ∨ a = Dl) B ad H0 H5 σ G := fun {H5} S5 =>
        S5.slots (G' := G) (vs := vs) hl.symm (fun i hi => (ho i hi).symm) hu (fun i c hi g => hgu i c hi (hw i c hi g)) (by rw [ew, wipe_wipe])
      have hB : ¬ InB B Dl := fr.2.1
      have ha3 : H'' Dl = some (.lst acc) := ex _ _ ha
      have al : acc.length < sizeLine := by
        have h1 := dpa_len hda
        have h2 := opts_len os
        have h3 := ha2.1
        exact Nat.lt_of_lt_of_le (show acc.length < 16777216 by omega) (by decide)
      refine hte _ B ad H0 H'' σ2 S3 _ (fun b p H3 S4 e4 => ?_) xp_no
      have e4' : Ex (less H'' (Zs (fun a => Wd a ∨ a = Dl) B ad G)) (less H3 (Zs (fun a => Wd a ∨ a = Dl) B ad G)) := by
        have := Xb.lz (W := fun a => Wd a ∨ a = Dl) (ad := ad) (G := G) e4
        exact this
      have e5 : Ex (less H' (Zs (fun a => Wd a ∨ a = Dl) B ad G)) (less H3 (Zs (fun a => Wd a ∨ a = Dl) B ad G)) := (less_mono ex).trans e4'
      cases b with
      | false =>
        refine iteF ⟨back S4, e'.trans e5, (xb.trans (.of ex)).trans e4, os ++ [none], acc, ?_, e4 _ _ ha3 hB, ?_⟩
        · exact ha2.snoc (p.2 rfl)
        · rw [opts_snoc]
          show DpAll K _ acc (_ ++ [])
          rw [List.append_nil]
          exact dpa_mono e5 hda
      | true =>
        refine iteT ?_
        refine p.1 rfl _ B ad H0 H3 σ2 S4 _ (fun y py w H4 S5 e6 dw => ?_) xp_no
        rw [eZ] at dw
        have S6 := back S5
        obtain ⟨S7, el7⟩ := S6.foreign (o := .lst (acc ++ [w])) (p := Dl) (.inr rfl) fr.1 hB
        have e6' := Xb.lz (W := fun a => Wd a ∨ a = Dl) (ad := ad) (G := G) e6
        refine ⟨acc, e6 _ _ (e4 _ _ ha3 hB) hB, al, S7, ?_, ?_, os ++ [some y], acc ++ [w], ?_, upd_same, ?_⟩
        · rw [el7]
          exact e'.trans (e5.trans e6')
        · intro a o g n
          have na : a ≠ Dl := ne_of_none g hD
          rw [upd_ne na]
          exact ((((xb.trans (.of ex)).trans e4).trans e6) a o g n)
        · exact ha2.snoc py
        · rw [el7, opts_snoc]
          exact dpa_app (dpa_mono (e5.trans e6') hda) (.cons dw .nil)
    · have en : i = ds.length := by omega
      subst en
      obtain ⟨S5, e5⟩ := S'.back
      obtain ⟨S6, x6, n6, l6⟩ := fl_go S1 xb S'.bag hD ha
      refine .inl ⟨k2 (Nat.le_refl _), ?_⟩
      have k := q _ (hd os ha2) Dl acc _ S6 (e1.trans x6) n6 (by rw [l6, ← zs_lend]; exact hda)
      have k2 : Q (.ref Dl) (upd (less H' fun b => b = Dl) Dl (.lst acc)) := k
      rw [fl_upd ha] at k2
      exact k2) x
theorem ew_lc (h : IW K cs W wi G (LcI K cs W g tt te vs G (fun c => ∃ xs, c = ol xs ∧ φ (.list xs))) ε) : EW K cs W (tLc wi g tt te vs) G φ ε := ew_ef (ef_lc h)
theorem opts_map {β : Type} {f : β → PyData} : ∀ {xs : List β} {os : List (Option PyData)}, All2 (fun x o => o = some (f x)) xs os → opts os = xs.map f
  | _, _, .nil => rfl
  | x :: xs, _, .cons a t => by
    rw [a]
    show f x :: opts _ = _
    rw [opts_map t]; rfl
variable {β : Type} {xs : List β} {f : β → PyData}
theorem map_at {i : Nat} {x : PyData} (h : (xs.map f)[i]? = some x) : ∃ b, xs[i]? = some b ∧ f b = x ∧ b ∈ xs := by
  rw [List.getElem?_map] at h
  cases hb : xs[i]? with
  | none => rw [hb] at h; cases h
  | some b => rw [hb] at h; exact ⟨b, rfl, Option.some.inj h, List.mem_of_getElem? hb⟩
theorem gc_mono {x : PyData} {γ γ' : Gam → Prop} (h : GC K g vs G x γ) (m : ∀ G', γ G' → γ' G') : GC K g vs G x γ' := fun Wd B ad H0 H σ v S d Q q => h Wd B ad H0 H σ v S d Q fun G' σ' k => q G' σ' (m G' k)
/-- [.. for x in xs if ..], each turn by a relation -/
theorem lcR0 (R : β → Option PyData → Prop) (hz : xs.length ≤ 16000000) (hu : Unk vs G) (hs : ∀ x, x ∈ xs → GC K g vs G (f x) (fun Gt => TW K cs W tt Gt (fun b => Cnd b (EW K cs W te Gt (fun y => R x (some y)) noX) (R x none)) noX)) (p : ∀ os, All2 R xs os → χ (ol (opts os))) : LcI K cs W g tt te vs G χ (xs.map f) := by
  refine ⟨by rw [List.length_map]; exact hz, hu, fun i o => ∃ b, xs[i]? = some b ∧ R b o, fun i x hx => ?_, fun os ha => ?_⟩
  · obtain ⟨b, hb, rfl, hm⟩ := map_at hx
    exact gc_mono (hs b hm) fun Gt k => tw_mono k fun c q => ⟨fun hc => ew_mono (q.1 hc) fun y r => ⟨b, hb, r⟩, fun hc => ⟨b, hb, q.2 hc⟩⟩
  · rw [List.length_map] at ha
    exact p os (ha.all2 fun i x o hx ⟨b, hb, r⟩ => by rw [hx] at hb; cases hb; exact r)
/-- [h x for x in xs] -/
theorem lcM (h : β → PyData) (hz : xs.length ≤ 16000000) (hu : Unk vs G) (hs : ∀ x, x ∈ xs → GC K g vs G (f x) (fun Gt => EW K cs W te Gt (fun y => y = h x) noX)) (p : χ (ol (xs.map h))) : LcI K cs W g tYes te vs G χ (xs.map f) :=
  lcR0 (fun x o => o = some (h x)) hz hu (fun x hx => gc_mono (hs x hx) fun Gt k => tw_yes (cnd_t (ew_mono k fun y e => by rw [e]))) fun os ha => by rw [opts_map ha]; exact p
/-- [.. for x in xs], each by a relation (draws) -/
theorem lcR (R : β → PyData → Prop) (hz : xs.length ≤ 16000000) (hu : Unk vs G) (hs : ∀ x, x ∈ xs → GC K g vs G (f x) (fun Gt => EW K cs W te Gt (fun y => R x y) noX)) (p : ∀ ys, All2 R xs ys → χ (ol ys)) : LcI K cs W g tYes te vs G χ (xs.map f) :=
  lcR0 (fun x o => ∃ y, o = some y ∧ R x y) hz hu (fun x hx => gc_mono (hs x hx) fun Gt k => tw_yes (cnd_t (ew_mono k fun y r => ⟨y, rfl, r⟩))) fun os ha => by
    obtain ⟨ys, e, h2⟩ := ha.exists_map
    rw [e]
    have : opts (ys.map some) = ys := by
      unfold opts
      rw [List.filterMap_map]
      show ys.filterMap some = ys
      exact List.filterMap_some
    rw [this]
    exact p ys h2
end
end U.N

end
section
namespace U.N
open PySem PyProof.Rows L2 Evl
section
variable {K : Fg} {cs : Cs} {W : WX} {G G' G1 G2 : Gam} {ta tb tc te : TE} {φ : PyData → Prop} {ε : Xw → Prop} {Φ Ψ : Out → Prop}
variable {Wd : Addr → Prop} {B : Option (Addr × Addr)} {ad : Nat → Addr} {H0 H H1 H2 : Hp} {σ σ' : St}
/-! ### raising -/
theorem ew_xf {i : Nat} {a dd C : Addr} {fs : List (Str × V)} {n : Str} {v : V} {x : PyData} (hi : G[i]? = some (.xc a dd fs)) (hl : fs.lookup n = some v) (hd : ∀ H, Dp K H v x) (p : φ x) : EW K cs W (tXf a (.ref C) (some dd) C n (tVar i)) G φ ε := fun Wd B ad H0 H σ S Q q _ => by
  obtain ⟨o, g1, rfl, g2⟩ := S.at_ i _ hi
  exact ⟨_, g1, rfl, rfl, dd, fs, v, rfl, (less_some g2).2, hl, q _ p _ H S Xb.refl (hd _)⟩
theorem ew_xfS {i : Nat} {a dd C : Addr} {fs : List (Str × V)} {n : Str} {v : Str} (hi : G[i]? = some (.xc a dd fs)) (hl : fs.lookup n = some (.str v)) (p : φ (.str v)) : EW K cs W (tXf a (.ref C) (some dd) C n (tVar i)) G φ ε := ew_xf hi hl (fun _ => .str v) p
theorem sw_raise0 {c : Str} {nm : List Str} {g : List V → Option (List (Str × V))} {fs : List (Str × V)} (cf : ClsF K cs c nm) (hg : g [] = some fs) (h : Φ (.ex ⟨c, fs⟩ G)) : SW K cs W (tRaiseX (cs c) (spIn K nm g) [] tNil W) G Φ := fun Wd B ad H0 H σ D S q => by
  refine mk_read cf.ox cf.no ⟨by show 0 ≤ 1000; decide, hg, fun d hd => ?_⟩ (fun Q1 Q2 m h => m _ _ h)
  have e : Ex H (upd H d (.xd fs)) := Ex.new hd
  exact q _ h d ad _ σ (S.ext e) (less_mono e) (S.fresh hd).1 (less_of (S.fresh hd).2.2 upd_same)
/-! ### try .. except C as why -/
noncomputable def hq (i : Nat) (Φ : Out → Prop) : Out → Prop
  | .nx G => Φ (.nx (G.set i .un))
  | .bk G => Φ (.bk (G.set i .un))
  | .ct G => Φ (.ct (G.set i .un))
  | .rt x => Φ (.rt x)
  | .rl c => Φ (.rl c)
  | .ex _ _ => False
noncomputable def tq (K : Fg) (cs : Cs) (W : WX) (c : Str) (i : Nat) (ts : Addr → Value → Option Addr → TS) (Φ : Out → Prop) : Out → Prop
  | .ex e G => PySem.W.exmOne K (.ref (cs e.cls)) (.ref (cs c)) = some true ∧ ∀ a d, SW K cs W (ts a (.ref (cs e.cls)) (some d)) (G.set i (.xc a d e.fs)) (hq i Φ)
  | .nx G => Φ (.nx G)
  | .bk G => Φ (.bk G)
  | .ct G => Φ (.ct G)
  | .rt x => Φ (.rt x)
  | .rl c => Φ (.rl c)
theorem un_ex {i : Nat} : Ex (less H (Zs Wd B ad G)) (less H (Zs Wd B ad (G.set i .un))) := less_sub fun a z => Zs.set_of (fun _ z => by cases z) z
theorem sw_try {c : Str} {i : Nat} {tb : WX → TS} {ts : Addr → Value → Option Addr → TS} (h : ∀ W', SW K cs W' (tb W') G (tq K cs W c i ts Φ)) : SW K cs W (tTryAs K (.ref (cs c)) i tb ts) G Φ := fun Wd B ad H0 H σ D S q => by
  refine h _ Wd B ad H0 H σ D S fun o p => ?_
  cases o with
  | nx G1 => exact q _ p
  | bk G1 => exact q _ p
  | ct G1 => exact q _ p
  | rt x => exact q _ p
  | rl x => exact q _ p
  | ex e G1 =>
    intro d ad1 H1 σ1 S1 e1 hn hx
    obtain ⟨hm, p⟩ := p
    refine ⟨true, hm, fun _ a ha => ?_, fun z => by cases z⟩
    have S2 : Sta K Wd B ad1 H0 H1 (σ1.set i (some (.ref a))) (G1.set i (.xc a d e.fs)) := S1.set (fun _ z => by cases z) ⟨rfl, hx⟩
    have e2 : Ex (less H (Zs Wd B ad G)) (less H1 (Zs Wd B ad1 (G1.set i (.xc a d e.fs)))) := e1.trans (less_sub fun a z => Zs.set_of (fun _ z => by cases z) z)
    refine p a d Wd B ad1 H0 H1 _ _ S2 fun o po => ?_
    cases o with
    | nx G3 => exact fun ad3 H3 σ3 S3 e3 => q _ po ad3 H3 _ S3.setU ((e2.trans e3).trans un_ex)
    | bk G3 => exact fun ad3 H3 σ3 S3 e3 => q _ po ad3 H3 _ S3.setU ((e2.trans e3).trans un_ex)
    | ct G3 => exact fun ad3 H3 σ3 S3 e3 => q _ po ad3 H3 _ S3.setU ((e2.trans e3).trans un_ex)
    | rt x => exact q _ po
    | rl x => exact q _ po
    | ex e G3 => exact po.elim
end
/-! ### several clauses -/
section
variable {K : Fg} {cs : Cs} {W : WX} {G : Gam} {Φ : Out → Prop}
end
/-! ### defs -/
noncomputable def rts0 (A : Rs → Prop) : Out → Prop
  | .rt x => A (.ok x)
  | .rl c => A (.fl c)
  | .nx _ => A (.ok .none)
  | _ => False
noncomputable def rts (A : Rs → Prop) : Out → Prop
  | .rt x => A (.ok x)
  | .rl c => A (.fl c)
  | .nx _ => A (.ok .none)
  | .ex e _ => A (.er e)
  | _ => False
noncomputable def frame (n : Nat) (ds : List PyData) : Gam := ds.map .d ++ List.replicate (n - ds.length) .un
section
variable {Pg : Program} {w : World} {K : Fg} {mg : Str → Option Value} {base : Heap} {cs : Cs}
theorem frame_get {n i : Nat} {ds : List PyData} {e : En} (h : (frame n ds)[i]? = some e) : (∃ d, ds[i]? = some d ∧ e = .d d) ∨ (ds.length ≤ i ∧ e = .un) := qt_of (by simp (disch := with_unfolding_all
  unfold frame at h
  by_cases hi : i < ds.length
  · rw [List.getElem?_append_left (by rw [List.length_map]; exact hi), List.getElem?_map, List.getElem?_eq_getElem hi] at h
    exact .inl ⟨ds[i], List.getElem?_eq_getElem hi, (Option.some.inj h).symm⟩
  · have hi : ds.length ≤ i := by omega
    rw [List.getElem?_append_right (by rw [List.length_map]; exact hi)] at h
    exact .inr ⟨hi, (List.mem_replicate.mp (List.mem_of_getElem? h)).2⟩
  ) only [↓qt_eq])
theorem frame_len {n : Nat} {ds : List PyData} : (frame n ds).length = ds.length + (n - ds.length) := by
  unfold frame
  rw [List.length_append, List.length_map, List.length_replicate]
theorem bag_ok0 : Bag.ok ⟨[], 0, 0⟩ := ⟨by simp, by decide, by decide⟩
/-- the state at a def's entry -/
theorem sta0 {N : List Str} {Wd : Addr → Prop} {H : Hp} {vs : List V} {ds : List PyData} (hW : ∀ a, Wd a → ∃ o, H a = some o) (hd : DpAll K (less H Wd) vs ds) : Sta K Wd none (fun _ => 0) H H (L2.start N vs) (frame N.length ds) := qt_of (by simp (disch := with_unfolding_all
  have no : ∀ (i : Nat) (c : Own), (frame N.length ds)[i]? ≠ some (En.ow c) := fun i c h => by
    rcases frame_get h with ⟨d, _, e⟩ | ⟨_, e⟩ <;> cases e
  have zz : ∀ a, Zs Wd none (fun _ => 0) (frame N.length ds) a → Wd a := by
    rintro a (z | ⟨i, c, g, _⟩ | ⟨b, c, z, _⟩)
    · exact z
    · exact absurd g (no i c)
    · cases z
  refine ⟨?_, fun i e h => ?_, fun i j c c' g => absurd g (no i c), fun i c g => absurd g (no i c), fun a o h _ => h, ⟨_, bag_ok0, trivial⟩, hW⟩
  · rw [start_len, dpa_len hd, frame_len]
  · rcases frame_get h with ⟨d, hi, rfl⟩ | ⟨hi, rfl⟩
    · obtain ⟨v, hv, dv⟩ := dpa_get hd hi
      exact ⟨some v, start_get hv, v, rfl, dp_mono (less_sub zz) dv⟩
    · have il : i < (L2.start N vs).length := by
        rw [start_len, dpa_len hd]
        have := (List.getElem?_eq_some_iff.mp h).1
        rw [frame_len] at this
        exact this
      exact ⟨(L2.start N vs)[i], List.getElem?_eq_getElem il, trivial⟩
  ) only [↓qt_eq])
theorem xb_none {H H' : Hp} (h : Xb none H H') : Ex H H' := fun a o g => h a o g fun ⟨_, _, z, _⟩ => by cases z
theorem sz_none {Wd : Addr → Prop} {H : Hp} : (less H fun a => Wd a ∨ InB none a) = less H Wd := congrArg (less H) (funext fun a => propext ⟨fun z => z.elim id (fun ⟨_, _, z, _⟩ => (by cases z)), Or.inl⟩)
theorem run0 {N : List Str} {Wd : Addr → Prop} {H : Hp} {vs : List V} {ds : List PyData} {A : Rs → Prop} {t : TS} {Q : VK} (hW : ∀ a, Wd a → ∃ o, H a = some o) (hd : DpAll K (less H Wd) vs ds) (h : SW K cs W0 t (frame N.length ds) (rts0 A)) (q : okRs H K Wd Q A) :
    t { nx := fun _ H' => Q .non H', rt := Q } (L2.start N vs) H := qt_of (by simp (disch := with_unfolding_all
  refine h Wd none (fun _ => 0) H H _ _ (sta0 hW hd) fun o p => ?_
  cases o with
  | rt x => exact fun v H' e _ d => q.1 x p v H' (xb_none e) (by rw [sz_none] at d; exact d)
  | rl c => exact fun a us H' e _ hn ho d => q.2 c p a us H' (xb_none e) hn ho (dpa_mono (less_sub fun b z => by rcases z with z | z; exact .inl (.inl z); exact .inr z) d)
  | nx G => exact fun ad H' σ S _ => q.1 _ p _ H' (xb_none fun a o h n => S.base a o h n) .non
  | bk G => exact p.elim
  | ct G => exact p.elim
  | ex e G => exact p.elim
  ) only [↓qt_eq])
theorem runX {N : List Str} {Wd : Addr → Prop} {H : Hp} {vs : List V} {ds : List PyData} {A : Rs → Prop} {t : TS} {Q : VK} {E : XK} (hW : ∀ a, Wd a → ∃ o, H a = some o) (hd : DpAll K (less H Wd) vs ds) (h : SW K cs (WD E) t (frame N.length ds) (rts A)) (q : okRs H K Wd Q A) (x : ∀ e, A (.er e) → ∀ d H', Ex H H' → H d = none → H' d = some (.xd e.fs) → E (.ref (cs e.cls)) (some d) H') :
    t { nx := fun _ H' => Q .non H', rt := Q } (L2.start N vs) H := qt_of (by simp (disch := with_unfolding_all
  refine h Wd none (fun _ => 0) H H _ _ (sta0 hW hd) fun o p => ?_
  cases o with
  | rt x => exact fun v H' e _ d => q.1 x p v H' (xb_none e) (by rw [sz_none] at d; exact d)
  | rl c => exact fun a us H' e _ hn ho d => q.2 c p a us H' (xb_none e) hn ho (dpa_mono (less_sub fun b z => by rcases z with z | z; exact .inl (.inl z); exact .inr z) d)
  | nx G => exact fun ad H' σ S _ => q.1 _ p _ H' (xb_none fun a o h n => S.base a o h n) .non
  | bk G => exact p.elim
  | ct G => exact p.elim
  | ex e G => exact fun d ad H' σ S _ hn hx => x e p d H' (xb_none fun a o h n => S.base a o h n) hn (less_some hx).2
  ) only [↓qt_eq])
/-- a def that never raises -/
theorem okW {x qual : Str} {st : Stmt} {f : Addr} {fd : FuncData} {N ps : List Str} {k : Nat} {P : Pr} (cs : Cs) (F : Fun K x qual st f fd) (S : FnScope N ps (defScope st)) (hl : ∀ ds A, P ds A → ds.length = ps.length)
    (hb : ∀ ds A, P ds A → ∀ (cdv : Value) (Ar : Around) (outer : List Env) (sh : Shared) (H : Hp) (E : XK), Room k (Ar.deeper (envOfC qual (defScope st) sh.heap.objs.size f cdv)) →
      ∃ t, PSs (cxOf CX0 Pg w K mg base N qual (defScope st) f cdv Ar outer sh H E).nox (defBody st) t ∧ SW K cs W0 t (frame N.length ds) (rts0 A)) : FnOk Pg w K mg base CX0 (k + 1) f fd ps (spW0 K P) := qt_of (by simp (disch := with_unfolding_all
  refine F.ok S (fun vs H Q E h => ?_) (fun cdv Ar outer sh H vs Q E hr h => ?_)
  · obtain ⟨Wd, ds, A, _, hd, hp, _⟩ := h
    rw [dpa_len hd]
    exact hl ds A hp
  · obtain ⟨Wd, ds, A, hW, hd, hp, q⟩ := h
    obtain ⟨t, ht, g⟩ := hb ds A hp cdv Ar outer sh H E hr
    exact ⟨t, ht, run0 hW hd g q⟩
  ) only [↓qt_eq])
theorem okWD {x qual : Str} {st : Stmt} {dvs : List V} {kws : List (Str × V)} {f : Addr} {fd : FuncData} {N ps : List Str} {k : Nat} {P : Pr} (cs : Cs) (F : FunD K x qual (defArgs st) (defBody st) (defScope st) dvs kws f fd) (S : FnScope N ps (defScope st)) (hl : ∀ ds A, P ds A → ds.length = ps.length)
    (hb : ∀ ds A, P ds A → ∀ (cdv : Value) (Ar : Around) (outer : List Env) (sh : Shared) (H : Hp) (E : XK), Room k (Ar.deeper (envOfC qual (defScope st) sh.heap.objs.size f cdv)) →
      ∃ t, PSs (cxOf CX0 Pg w K mg base N qual (defScope st) f cdv Ar outer sh H E).nox (defBody st) t ∧ SW K cs W0 t (frame N.length ds) (rts0 A)) : FnOk Pg w K mg base CX0 (k + 1) f fd ps (spW0 K P) := qt_of (by simp (disch := with_unfolding_all
  refine F.ok S (fun vs H Q E h => ?_) (fun cdv Ar outer sh H vs Q E hr h => ?_)
  · obtain ⟨Wd, ds, A, _, hd, hp, _⟩ := h
    rw [dpa_len hd]
    exact hl ds A hp
  · obtain ⟨Wd, ds, A, hW, hd, hp, q⟩ := h
    obtain ⟨t, ht, g⟩ := hb ds A hp cdv Ar outer sh H E hr
    exact ⟨t, ht.nox, run0 hW hd g q⟩
  ) only [↓qt_eq])
/-- a def that may raise -/
theorem okWX {x qual : Str} {st : Stmt} {f : Addr} {fd : FuncData} {N ps : List Str} {k : Nat} {P : Pr} (F : Fun K x qual st f fd) (S : FnScope N ps (defScope st)) (hl : ∀ ds A, P ds A → ds.length = ps.length)
    (hb : ∀ ds A, P ds A → ∀ (cdv : Value) (Ar : Around) (outer : List Env) (sh : Shared) (H : Hp) (E : XK), Room k (Ar.deeper (envOfC qual (defScope st) sh.heap.objs.size f cdv)) →
      ∃ t, PSs (cxOf (L2.CX Pg w) Pg w K mg base N qual (defScope st) f cdv Ar outer sh H E) (defBody st) t ∧ SW K cs (WD E) t (frame N.length ds) (rts A)) :
    FnOk Pg w K mg base (L2.CX Pg w) (k + 1) f fd ps (spW K cs P) := qt_of (by simp (disch := with_unfolding_all
  refine F.okX S (fun vs H Q E h => ?_) (fun cdv Ar outer sh H vs Q E hr h => ?_)
  · obtain ⟨Wd, ds, A, _, hd, hp, _⟩ := h
    rw [dpa_len hd]
    exact hl ds A hp
  · obtain ⟨Wd, ds, A, hW, hd, hp, q, x⟩ := h
    obtain ⟨t, ht, g⟩ := hb ds A hp cdv Ar outer sh H E hr
    exact ⟨t, ht, runX hW hd g q x⟩
  ) only [↓qt_eq])
theorem bag0_okN {ns : List Int} (h : ns.length ≤ 63) : (bag0 ns).ok := ⟨h, by show (0 : Int) ≤ 20011; decide, by show (20011 : Int) < 2147483647; decide⟩
/-- the law itself -/
theorem okLawW {x qual : Str} {st : Stmt} {f : Addr} {fd : FuncData} {N : List Str} {a : Str} {k j : Nat} (cs : Cs) (F : Fun K x qual st f fd) (S : FnScope N [a] (defScope st)) (hj : j = 1) (hN : 2 ≤ N.length)
    (hb : ∀ (ns : List Int), ns.length ≤ 63 → ∀ (cdv : Value) (A : Around) (outer : List Env) (sh : Shared) (H : Hp) (E : XK), Room k (A.deeper (envOfC qual (defScope st) sh.heap.objs.size f cdv)) →
      ∃ t, PSs (cxOf CX0 Pg w K mg base N qual (defScope st) f cdv A outer sh H E).nox (defBody st) (tSeq (tAsg (tCall (spBag K) [] E0 (tCons (tVar 0) tNil)) (gName j)) t) ∧ SW K cs W0 t (.d (.list (ns.map PyData.int)) :: .bag :: List.replicate (N.length - 2) .un) (fun o => o = .rt (.bool true))) : FnOk Pg w K mg base CX0 (k + 1) f fd [a] (spP K PLaw) := qt_of (by simp (disch := with_unfolding_all
  subst hj
  refine F.ok S (fun vs H Q E h => ?_) (fun cdv A outer sh H vs Q E hr h => ?_)
  · obtain ⟨W, ds, r, _, hd, ⟨ns, rfl, _⟩, _⟩ := h
    exact dpa_len hd
  · obtain ⟨W, ds, r, hW, hd, ⟨ns, rfl, hl, rfl⟩, q⟩ := h
    obtain ⟨t, ht, g⟩ := hb ns hl cdv A outer sh H E hr
    obtain ⟨v, rfl, dv⟩ := dp1 hd
    obtain ⟨N0, N1, N', rfl⟩ : ∃ a b r, N = a :: b :: r := by
      match N, hN with
      | a :: b :: r, _ => exact ⟨a, b, r, rfl⟩
    refine ⟨_, ht, ?_⟩
    refine ⟨v, rfl, W, ns, hW, hd, hl, fun b c H' e fb fc hB => ?_⟩
    have nb : ∀ a o, H a = some o → ¬ InB (some (b, c)) a := by
      rintro a o h ⟨b', c', e, z⟩
      cases e
      rcases z with rfl | rfl
      · rw [fb] at h; cases h
      · rw [fc] at h; cases h
    have no : ∀ (i : Nat) (l : Own), (En.d (.list (ns.map PyData.int)) :: En.bag :: List.replicate N'.length En.un)[i]? ≠ some (En.ow l) := fun i l h => by
      match i, h with
      | 0, h => cases h
      | 1, h => cases h
      | i + 2, h => cases (List.mem_replicate.mp (List.mem_of_getElem? h)).2
    have hW' : ∀ a, W a → ∃ o, H' a = some o := fun a z => (hW a z).elim fun o q => ⟨o, e a o q⟩
    have S0 : Sta K W (some (b, c)) (fun _ => 0) H H' ((L2.start (N0 :: N1 :: N') [v]).set 1 (some (.ref b))) (En.d (.list (ns.map PyData.int)) :: En.bag :: List.replicate N'.length En.un) := by
      refine ⟨?_, fun i en h => ?_, fun i j c c' g => absurd g (no i c), fun i c g => absurd g (no i c), fun a o h _ => e a o h, ⟨_, bag0_okN hl, hB⟩, hW'⟩
      · rw [List.length_set, start_len]
        simp
        omega
      · match i, h with
        | 0, h =>
          cases h
          refine ⟨some v, rfl, v, rfl, dp_mono ?_ dv⟩
          intro a o q
          obtain ⟨q1, q2⟩ := less_some q
          refine less_of ?_ (e a o q2)
          rintro (z | ⟨i, l, g, _⟩ | z)
          · exact q1 z
          · exact no i l g
          · exact nb a o q2 z
        | 1, h =>
          cases h
          exact ⟨some (.ref b), rfl, b, c, rfl, rfl⟩
        | i + 2, h =>
          have en := (List.mem_replicate.mp (List.mem_of_getElem? h)).2
          subst en
          have il : i + 2 < ((L2.start (N0 :: N1 :: N') [v]).set 1 (some (.ref b))).length := by
            have := (List.getElem?_eq_some_iff.mp h).1
            rw [List.length_set, start_len]
            simp at this ⊢
            omega
          exact ⟨_, List.getElem?_eq_getElem il, trivial⟩
    refine g W (some (b, c)) (fun _ => 0) H H' _ _ S0 fun o p => ?_
    subst p
    exact fun v' H2 e2 _ d => by
      cases d
      exact q _ H2 (fun a o h => e2 a o h (nb a o h)) (.bl true)
  ) only [↓qt_eq])
end
end U.N

end
section
namespace U.N
open PySem PyProof.Rows L2 Evl
section
variable {K : Fg} {cs : Cs} {W : WX} {G G' G1 G2 : Gam} {ta tb tc td te tf tg : TE} {φ : PyData → Prop} {ε : Xw → Prop} {ι : List PyData → Prop} {χ : Own → Prop} {γ : Gam → Prop} {Φ Ψ : Out → Prop}
variable {Wd : Addr → Prop} {B : Option (Addr × Addr)} {ad : Nat → Addr} {H0 H H1 H2 : Hp} {σ σ' : St}
/-! ### what a value is -/
section
variable {P : Int → Prop} {Pb : Bool → Prop} {Ps : Str → Prop} {Pl : List PyData → Prop} {i j : Int} {b : Bool} {x y z : PyData} {xs ys : List PyData}
theorem xi_int (p : P i) : ∃ j, PyData.int i = .int j ∧ P j := ⟨_, rfl, p⟩
theorem xi_bool (p : Pb b) : ∃ j, PyData.bool b = .bool j ∧ Pb j := ⟨_, rfl, p⟩
theorem xi_str {b : Str} (p : Ps b) : ∃ j, PyData.str b = .str j ∧ Ps j := ⟨_, rfl, p⟩
theorem xi_it (h : itemsOf x = some xs) (p : Pl xs) : ∃ j, itemsOf x = some j ∧ Pl j := ⟨_, h, p⟩
theorem x1_int (p : P i) : ∃ j, [PyData.int i] = [.int j] ∧ P j := ⟨_, rfl, p⟩
theorem x1_rng {P : Int → Prop} (hb : -1000000 ≤ i ∧ i ≤ 1000000) (p : P i) : ∃ n : Int, [PyData.int i] = [.int n] ∧ (-1000000 ≤ n ∧ n ≤ 1000000) ∧ P n := ⟨_, rfl, hb, p⟩
theorem allB_map {α : Type} {f : α → Bool} {l : List α} : AllB [PyData.list (l.map fun a => .bool (f a))] (l.all f) := ⟨l.map f, by rw [List.map_map]; rfl, by rw [List.all_map]; rfl⟩
theorem x_all (h : AllB xs b) (p : Pb b) : ∃ b, AllB xs b ∧ Pb b := ⟨b, h, p⟩
theorem sc_int (p : Pb (decide (i = j))) : ∃ b, scEq (.int i) (.int j) = some b ∧ Pb b := ⟨_, rfl, p⟩
theorem sc_str {i j : Str} (p : Pb (decide (i = j))) : ∃ b, scEq (.str i) (.str j) = some b ∧ Pb b := ⟨_, rfl, p⟩
theorem x_ol (p : Pl xs) : ∃ ys, ol xs = ol ys ∧ Pl ys := ⟨_, rfl, p⟩
theorem unk1 {G : Gam} {i : Nat} (h : G[i]? = some .un) : Unk [i] G := fun j e hj g => by
  rw [List.mem_singleton.mp hj, h] at g
  exact (Option.some.inj g).symm
end
/-! ### displays of a known length -/
theorem ew_tup2 (h : EW K cs W ta G (fun a => EW K cs W tb G (fun b => φ (.tuple [a, b])) ε) ε) : EW K cs W (tTup (tCons ta (tCons tb tNil))) G φ ε := ew_tup (aw_cons (ew_mono h fun a h => aw_cons (ew_mono h fun b p => aw_nil ⟨by show 2 ≤ 16000000; decide, p⟩)))
theorem ef_lst1 (h : EW K cs W ta G (fun a => χ (ol [a])) ε) : EF K cs W (tLst (tCons ta tNil)) G χ ε := ef_lst (aw_cons (ew_mono h fun a p => aw_nil ⟨by show 1 ≤ 16000000; decide, p⟩))
theorem ew_lst1 (h : EW K cs W ta G (fun a => φ (.list [a])) ε) : EW K cs W (tLst (tCons ta tNil)) G φ ε := ew_ef (ef_lst1 (ew_mono h fun a p => ⟨_, rfl, p⟩))
/-! ### calls without defaults -/
section
variable {ta : TA} {P : Pr} {E : XK}
theorem ew_cP {P : List PyData → PyData → Prop} (h : AW K cs W ta G (fun ds => ∃ r, P ds r ∧ φ r) ε) : EW K cs W (tCall (spP K P) [] E ta) G φ ε := ew_callP (des := []) (fun _ => .nil) (aw_mono h fun ds p => by rw [List.append_nil]; exact p)
theorem ew_c0 (h : AW K cs W ta G (fun ds => P ds (rE φ noX)) ε) : EW K cs W (tCall (spW0 K P) [] E ta) G φ ε := ew_call0 (des := []) (fun _ => .nil) (aw_mono h fun ds p => by rw [List.append_nil]; exact p)
theorem ew_cW (h : AW K cs W ta G (fun ds => P ds (rE φ ε)) ε) : EW K cs W (tCallSD (spW K cs P) [] (WE W) ta) G φ ε := ew_callW (des := []) (fun _ => .nil) (aw_mono h fun ds p => by rw [List.append_nil]; exact p)
end
theorem rE_ok {x : PyData} (h : φ x) : rE φ ε (.ok x) := h
/-! ### zip -/
/-! ### stars -/
noncomputable def GsW (K : Fg) (g : TGs) (G : Gam) (xs : List PyData) (γ : Gam → Prop) : Prop :=
  ∀ Wd B ad H0 H σ us, Sta K Wd B ad H0 H σ G → DpAll K (less H (Zs Wd B ad G)) us xs → ∀ Q : St → Hp → Prop,
  (∀ G' ad' H' σ', γ G' → Sta K Wd B ad' H0 H' σ' G' → Ex (less H (Zs Wd B ad G)) (less H' (Zs Wd B ad' G')) → Q σ' H') → g us σ H Q
theorem gsw_nil (h : γ G) : GsW K gNil G [] γ := fun Wd B ad H0 H σ us S d Q q => by
  cases d
  exact ⟨rfl, q _ _ _ _ h S (Ex.refl _)⟩
theorem gsw_cons {g : TG} {gs : TGs} {x : PyData} {xs : List PyData} (h : GW K g G x (fun G' => GsW K gs G' xs γ)) : GsW K (gCons g gs) G (x :: xs) γ := fun Wd B ad H0 H σ us S d Q q => by
  cases d with
  | cons a b =>
    refine ⟨_, _, rfl, h Wd B ad H0 H σ _ S a _ fun G1 ad1 H1 σ1 p S1 e1 => ?_⟩
    exact p Wd B ad1 H0 H1 σ1 _ S1 (dpa_mono e1 b) _ fun G2 ad2 H2 σ2 p S2 e2 => q G2 ad2 H2 σ2 p S2 (e1.trans e2)
theorem gw_tup {n : Nat} {gs : TGs} {xs : List PyData} (hn : xs.length = n) (h : GsW K gs G xs γ) : GW K (gTup K n gs) G (.tuple xs) γ := fun Wd B ad H0 H σ v S d Q q => by
  cases d with
  | tup g t => exact ⟨_, _, rfl, ex_t less_ex g, (dpa_len t).trans hn, h Wd B ad H0 H σ _ S t Q q⟩
/-- for i in range(n) -/
theorem forN {g : TG} {tb : TS} {k : Nat} (I : Nat → Gam → Prop) (h0 : I 0 G) (hs : ∀ i G1, i < k → I i G1 → GW K g G1 (.int i) (fun Gt => SW K cs W tb Gt (lp (I (i + 1)) Φ))) (he : ∀ G1, I k G1 → Φ (.nx G1)) : ForI K cs W g tb G Φ (rngD 0 k) := by
  refine ⟨I, h0, fun i x G1 hx hI => ?_, fun G1 hI => he G1 (by rw [rngD_len] at hI; exact hI)⟩
  have hl := (List.getElem?_eq_some_iff.mp hx).1
  rw [rngD_len] at hl
  rw [rngD_get hl] at hx
  cases hx
  rw [Int.zero_add]
  exact hs i G1 hl hI
section
variable {tz tu tw : TS} {g : TG} {wi : TI} {t : TT} {ti : TIp} {i j : Nat} {ta : TA}
theorem sw_seqA (h : SW K cs W (tAsg te g) G (sq K cs W tz Φ)) : SW K cs W (tSeq (tAsg te g) tz) G Φ := sw_seq h
theorem sw_seqF (h : SW K cs W (tFor wi g tu) G (sq K cs W tz Φ)) : SW K cs W (tSeq (tFor wi g tu) tz) G Φ := sw_seq h
end
theorem sw_cut {tu tz : TS} (J : Gam → Prop) (h : SW K cs W tu G (fun o => ∃ G1, o = .nx G1 ∧ J G1)) (k : ∀ G1, J G1 → SW K cs W tz G1 Φ) : SW K cs W (tSeq tu tz) G Φ := sw_seq (sw_mono h fun o ⟨G1, e, j⟩ => by rw [e]; exact k G1 j)
theorem x_nx {J : Gam → Prop} (h : J G) : ∃ G1, Out.nx G = .nx G1 ∧ J G1 := ⟨G, rfl, h⟩
/-! ### more of lists of one's own -/
end
end U.N

end
section
namespace U.N
open PySem PyProof.Rows L2 Evl
section
variable {φ : PyData → Prop} {n m : Nat} {p q : Fr}
/-! ### items by literal places -/
section
variable {α : Type} {ψ : α → Prop} {xs : List α} {z : α}
theorem at_nat {i : Nat} (h : xs[i]? = some z) (p : ψ z) : ∃ z, atI xs (i : Int) = some z ∧ ψ z := ⟨z, atI_nat h, p⟩
theorem at0 (h : xs[0]? = some z) (p : ψ z) : ∃ z, atI xs 0 = some z ∧ ψ z := at_nat (i := 0) h p
theorem at1 (h : xs[1]? = some z) (p : ψ z) : ∃ z, atI xs 1 = some z ∧ ψ z := at_nat (i := 1) h p
end
/-! ### what calls of the first layer's defs give -/
theorem c_pull {k : Int} (h0 : 0 < k) (h1 : k < 1000000000000) (h : ∀ v : Int, 0 ≤ v → v < k → φ (.int v)) (s : Bag) (ok : s.ok) : ∃ r s', P_pull s [.int k] r s' ∧ s'.ok ∧ φ r :=
  ⟨_, _, ⟨k, rfl, h0, h1, rfl, rfl⟩, pullS_ok _ ok, h _ (pullV_range s h0).1 (pullV_range s h0).2⟩
theorem c_part (h : ∀ p, Gd 10 p → φ (fr p)) (s : Bag) (ok : s.ok) : ∃ r s', P_part s [] r s' ∧ s'.ok ∧ φ r := ⟨_, _, ⟨rfl, rfl, rfl⟩, partS_ok ok, h _ (partOf_gd s)⟩
theorem c_farPart (h : ∀ p, Gd 63 p → φ (fr p)) (s : Bag) (ok : s.ok) : ∃ r s', P_farPart s [] r s' ∧ s'.ok ∧ φ r := ⟨_, _, ⟨rfl, rfl, rfl⟩, farPartS_ok ok, h _ (farPartOf_gd s)⟩
theorem c_like {x y : PyData} (e : x = y) (hy : okD 9 y = true) (h : φ (.bool true)) : ∃ r, P_like 10 [x, y] r ∧ φ r := by
  subst e
  exact ⟨_, ⟨x, rfl, hy, rfl⟩, h⟩
end
end U.N


end
section
/-! Spots in order: the common number below, the keys, the order by worth. -/
namespace U
open PySem PyProof.Rows L2 Evl
/-! ### the common number -/
/-! ### the keys -/
end U

end
section
/-! Dicts of one's own, keys tuples; sorted. -/
namespace U.N
open PySem L2 Evl
noncomputable abbrev Kvs := List (List PyData × PyData)
section
variable {K : Fg} {M : Hp}
end
section
variable {K : Fg} {cs : Cs} {W : WX} {G G' G1 G2 : Gam} {ta tb tc te : TE} {t u : TT} {φ : PyData → Prop} {ε : Xw → Prop} {ψ : Bool → Prop} {α : List PyData → Prop} {ι : List PyData → Prop} {χ : Own → Prop} {Φ : Out → Prop} {tu : TS}
variable {Wd : Addr → Prop} {B : Option (Addr × Addr)} {ad : Nat → Addr} {H0 H H1 H2 : Hp} {σ : L2.St} {w : World} {ep : Nat} {kvs : Kvs} {i : Nat}
/-! ### sorted -/
end
/-! ### a dict by a comprehension -/
section
variable {K : Fg} {cs : Cs} {W : WX} {G : Gam} {tk tv : TE} {ε : Xw → Prop} {χ : Own → Prop} {wi : TI} {g : TG} {tt : TT} {vs : List Nat} {w : World}
end
end U.N

end
section
/-! The order of spots; dicts by keys of a type. -/
namespace U
open PySem PyProof.Rows L2 Evl
/-! ### dicts by typed keys -/
namespace N
section
variable {κ β : Type} [DecidableEq κ] {ek : κ → List PyData} {ev : β → PyData}
end
end N
end U

end
section
/-! Keys that are whole numbers; sorted rows of whole numbers; forms for the walking tactic. -/
namespace U.N
open PySem L2 Evl
/-! ### rows of whole numbers, sorted -/
/-! ### forms for the tactic -/
section
variable {K : Fg} {cs : Cs} {W : WX} {G : Gam} {ta tb : TE} {φ : PyData → Prop} {ε : Xw → Prop} {w : World} {ep : Nat} {kvs : Kvs} {i : Nat}
end
end U.N

end
section
/-! The common number divides every common multiple. -/
namespace U
open PySem PyProof.Rows L2 Evl
end U

end
section
/-! Corners round: plain geometry over the rationals. -/
namespace U.Hull
structure Pt where
  x : Rat
  y : Rat
deriving DecidableEq
noncomputable def sub (a b : Pt) : Pt := ⟨a.x - b.x, a.y - b.y⟩
/-- the area by which two steps span -/
noncomputable def cr (u v : Pt) : Rat := u.x * v.y - u.y * v.x
/-- > 0: c lies to the left of a → b -/
noncomputable def tn (a b c : Pt) : Rat := cr (sub b a) (sub c a)
/-! ### one side -/
/-! ### edges -/
end U.Hull

end
section
namespace U.Hull
/-- q lies between h and r -/
noncomputable def Btw (h r q : Pt) : Prop := (q.x - h.x) * (q.x - r.x) ≤ 0 ∧ (q.y - h.y) * (q.y - r.y) ≤ 0 ∧ tn h r q = 0
/-- q follows h round the spots P -/
noncomputable def Nx (P : List Pt) (h q : Pt) : Prop := q ∈ P ∧ q ≠ h ∧ (∀ r ∈ P, 0 ≤ tn h q r) ∧ ∀ r ∈ P, r ≠ q → ¬ Btw h r q
end U.Hull

end
section
namespace U.Hull
end U.Hull

end
section
/-! Corners round, of spots. -/
namespace U.Hull
open U
end U.Hull

end
section
/-! The body of spots in order. -/
namespace U.Hull
open U
/-! ### on a line -/
end U.Hull

end
section
namespace U.N
open PySem PyProof.Rows L2 Evl
section
variable {K : Fg} {cs : Cs} {W : WX} {G G' : Gam} {ta te : TE} {φ : PyData → Prop} {ε : Xw → Prop} {ι : List PyData → Prop} {χ : Own → Prop} {Φ : Out → Prop}
variable {Wd : Addr → Prop} {B : Option (Addr × Addr)} {ad : Nat → Addr} {H0 H H1 H2 : Hp} {σ : L2.St}
/-! ### enumerate -/
/-! ### many clauses -/
/-! the turns' items by a map -/
section
variable {β : Type} {xs : List β} {f : β → PyData} {g : TG} {tt : TT} {tc : TCl} {vs : List Nat} {m : Nat} {ρ : List PyData → Prop}
end
end
end U.N

end
section
/-! Land by sides and by threes. -/
namespace U.Hull
open U
end U.Hull

end
section
/-! A list of one's own is lent to a test or a call that only reads it. -/
namespace U.N
open PySem PyProof.Rows L2 Evl
section
variable {K : Fg} {cs : Cs} {W : WX} {G : Gam} {te : TE} {t : TT} {φ : PyData → Prop} {ψ : Bool → Prop} {ε : Xw → Prop} {i : Nat} {xs : List PyData}
variable {Wd : Addr → Prop} {B : Option (Addr × Addr)} {ad : Nat → Addr} {H0 H H2 : Hp} {σ : L2.St}
end
end U.N

end
section
namespace U.N
open PySem PyProof.Rows L2 Evl
section
variable {K : Fg} {cs : Cs} {W : WX} {G G' : Gam} {ta tb te : TE} {φ : PyData → Prop} {ε : Xw → Prop} {χ : Own → Prop} {Φ : Out → Prop} {γ : Gam → Prop} {P : Pr}
variable {Wd : Addr → Prop} {B : Option (Addr × Addr)} {ad : Nat → Addr} {H0 H H1 H2 : Hp} {σ : L2.St}
/-! ### first, *rest = xs -/
/-! ### calls with keywords that may raise -/
/-! ### xs.index(y) -/
end
/-! ### keys that are bodies -/
end U.N

end
section
namespace U.N
open PySem PyProof.Rows L2 Evl
section
variable {K : Fg} {cs : Cs} {W : WX} {G : Gam} {φ : PyData → Prop} {ε : Xw → Prop}
/-! ### max and min of a list of whole numbers -/
end
end U.N

end
section
namespace U.N
open PySem PyProof.Rows L2 Evl
section
variable {K : Fg} {cs : Cs} {W : WX} {G : Gam} {φ : PyData → Prop} {ε : Xw → Prop}
/-- isinstance(why, D), why caught as a C -/
theorem ew_isD {i : Nat} {a dd C D : Addr} {fs : List (Str × V)} {b : Bool} (hi : G[i]? = some (.xc a dd fs)) (hk : PySem.W.kitOne K (.ref C) (.ref D) = some b) (p : φ (.bool b)) : EW K cs W (tCB (rIsD K a (.ref C) (some dd) C) (tCons (tVar i) (tCons (tC (.ref D)) tNil))) G φ ε := fun Wd B ad H0 H σ S Q q _ => by
  obtain ⟨o, g1, rfl, g2⟩ := S.at_ i _ hi
  exact ⟨_, g1, D, dd, fs, b, rfl, rfl, rfl, (less_some g2).2, hk, q _ p _ H S Xb.refl (.bl _)⟩
end
end U.N

end
section
namespace U.N
open PySem PyProof.Rows L2 Evl
section
variable {K : Fg} {cs : Cs} {W : WX} {G : Gam} {Φ : Out → Prop}
end
end U.N

end
section
namespace U.N
open PySem PyProof.Rows L2 Evl
section
variable {K : Fg} {cs : Cs} {W : WX} {G : Gam} {γ : Gam → Prop}
end
end U.N

end
section
/-! Defs as values: a def that tells a def by a text, and calls by a name that holds one. -/
namespace U.N
open PySem PyProof.Rows L2 Evl
noncomputable abbrev FTab := List (Str × Addr)
section
variable {K : Fg} {cs : Cs} {W : WX} {G : Gam} {φ : PyData → Prop} {ε : Xw → Prop} {Φ : Out → Prop} {t u : TE} {ta : TA} {i : Nat} {f : Addr} {P : Pr} {tab : FTab} {e : Xw}
end
/-! ### the body of such a def -/
section
variable (K : Fg) (cs : Cs) (W : WX)
end
section
variable {K : Fg} {cs : Cs} {W : WX} {G : Gam} {A : Addr → Prop} {ε : Xw → Prop} {t1 t2 : TS} {w : World} {f md : Addr} {i : Nat} {z : Str}
end
section
variable {Pg : Program} {w : World} {K : Fg} {mg : Str → Option Value} {base : Heap} {cs : Cs}
end
end U.N

end
section
/-! list(d), d a dict of one's own: its keys, in the order in which they came. -/
namespace U
open PySem PySem.W PyProof.Rows L2 Evl
end U
namespace U.N
open PySem PyProof.Rows L2 Evl
section
variable {K : Fg} {cs : Cs} {W : WX} {G : Gam} {φ : PyData → Prop} {χ : Own → Prop} {ε : Xw → Prop} {w : World} {i ep : Nat} {kvs : Kvs}
end
end U.N

end
section
/-! sorted(set(xs)), xs a list of tuples of whole numbers. -/
namespace U
open PySem PySem.W PyProof.Rows L2 Evl
end U

end
section
/-! sorted(set(xs)), told to the readings. -/
namespace U.N
open PySem PyProof.Rows L2 Evl
section
variable {K : Fg} {cs : Cs} {W : WX} {G : Gam} {φ : PyData → Prop} {χ : Own → Prop} {ε : Xw → Prop} {te : TE} {P : Program} {w : World}
end
end U.N

end
section
/-! sorted(set(xs)) as a term; xs.insert(0, y). -/
namespace U.N
open PySem PyProof.Rows L2 Evl
section
variable {K : Fg} {cs : Cs} {W : WX} {G : Gam} {φ : PyData → Prop} {ε : Xw → Prop} {Φ : Out → Prop} {te : TE}
end
end U.N

end
section
/-! Texts: len, signs, slices, in, int(text), str(number), +, *, f-strings, partition, find, count, join. -/
namespace U.N
open PySem PyProof.Rows L2 Evl
/-- a sign as a text -/
noncomputable abbrev sg (c : Nat) : PyData := .str ⟨#[c]⟩
/-! ### relations by name -/
noncomputable def rLenS : List V → Hp → VK → Prop := fun xs H Q => ∃ z, xs = [.str z] ∧ z.length ≤ sizeLine ∧ Q (.int z.length) H
noncomputable def rAddStr : R2 := fun x y H Q => ∃ i j, x = .str i ∧ y = .str j ∧ i.length + j.length ≤ sizeLine ∧ Q (.str (i ++ j)) H
noncomputable def rInSg : R2 := fun x y H Q => ∃ (c : Nat) (z : Str), x = .str ⟨#[c]⟩ ∧ y = .str z ∧ Q (.bl (decide (c ∈ z.cps.toList))) H
noncomputable def rIntS : List V → Hp → VK → Prop := fun xs H Q => ∃ a n, xs = [.str a] ∧ PySem.intText? a = some n ∧ a.length ≤ 640 ∧ Q (.int n) H
noncomputable def rStrI : List V → Hp → VK → Prop := fun xs H Q => ∃ i, xs = [.int i] ∧ i.natAbs.log2 < 1920 ∧ Q (.str (toString i)) H
/-- a sign many times -/
noncomputable def repS (c : Nat) (n : Nat) : Str := ⟨(List.replicate n c).toArray⟩
noncomputable def rMulStr : R2 := fun x y H Q => ∃ (c : Nat) (n : Int), x = .str ⟨#[c]⟩ ∧ y = .int n ∧ 2 ≤ n ∧ n ≤ 100000 ∧ Q (.str (repS c n.toNat)) H
noncomputable def rPart : V → List V → Hp → VK → Prop := fun x xs H Q => ∃ a b, x = .str a ∧ xs = [.str b] ∧ (b.length == 0) = false ∧ a.length ≤ sizeLine ∧
    ∀ p, H p = none → Q (.ref p) (upd H p (.tup [.str (Txt.partition a b).1, .str (Txt.partition a b).2.1, .str (Txt.partition a b).2.2]))
noncomputable def rFind : V → List V → Hp → VK → Prop := fun x xs H Q => ∃ a b, x = .str a ∧ xs = [.str b] ∧ Q (.int (Txt.find a b)) H
noncomputable def rCount : V → List V → Hp → VK → Prop := fun x xs H Q => ∃ a b, x = .str a ∧ xs = [.str b] ∧ Q (.int (Txt.count a b)) H
noncomputable def rJoin (K : Fg) : V → List V → Hp → VK → Prop := fun x xs H Q => ∃ a p, ∃ ys : List Str, x = .str a ∧ xs = [.ref p] ∧ (SqL K H p (ys.map V.str) ∨ SqT K H p (ys.map V.str)) ∧
    (ys.map (·.length)).sum + ys.length * a.length ≤ 16777216 ∧ Q (.str (Txt.join a ys)) H
noncomputable def tJoined (ts : List TE) : TE := fun σ H Q => tJs ts Str.empty σ H fun out H1 => Q (.str out) H1
theorem rep_fold (c : Nat) : ∀ (n : Nat) (acc : Array Nat), (List.replicate n #[c]).foldl (· ++ ·) acc = acc ++ (List.replicate n c).toArray
  | 0, acc => by simp
  | n + 1, acc => by
    rw [List.replicate_succ, List.foldl_cons, rep_fold c n, List.replicate_succ]
    apply Array.ext'
    simp
section
variable {X : Cx} {o e : Expr} {to te : TE}
theorem c_lenS : CallR X (.builtin "len") rLenS := call_len_str
theorem op_addStr : OpR X (binaryOp .Add) rAddStr := op_add_str
theorem op_inSg : OpR X (compareOp .In) rInSg := op_in_sign
theorem c_intS : CallR X (.type "int") rIntS := call_int_str
theorem c_strI : CallR X (.type "str") rStrI := call_str_int
theorem op_mulStr : OpR X (binaryOp .Mult) rMulStr := by
  intro pins s σ H x y v u Q I rx ry h
  obtain ⟨c, n, rfl, rfl, h1, h2, q⟩ := h
  obtain ⟨t, rfl⟩ := rx
  obtain ⟨t', rfl⟩ := ry
  have e1 : (decide (n < -(2 ^ 63 : Int)) || decide (n ≥ 2 ^ 63)) = false := by
    have a : ¬ n < -(2 ^ 63 : Int) := by omega
    have b : ¬ n ≥ 2 ^ 63 := by omega
    rw [decide_eq_false a, decide_eq_false b]; rfl
  have ln : (⟨#[c]⟩ : Str).length = 1 := rfl
  refine PySem.P.mul_str e1 (fun _ _ => ?_) (fun _ _ => ?_) ?_
  · rw [ln]
    have : (1 : Int) ≤ (2 ^ 63 - 1) / n := by
      rw [Int.le_ediv_iff_mul_le (by omega)]
      omega
    show ¬ ((1 : Nat) : Int) > _
    omega
  · rw [ln]
    have : 1 * n.toNat ≤ sizeLine := Nat.le_trans (show 1 * n.toNat ≤ 100000 by omega) (by decide)
    show decide (1 * n.toNat > sizeLine) = false
    simp only [decide_eq_false_iff_not]
    omega
  · rw [if_neg (by omega)]
    have : (n == 1 || (⟨#[c]⟩ : Str).length == 0) = false := by
      rw [ln]
      have : ¬ n = 1 := by omega
      simp [this]
    rw [this]
    simp only [Bool.false_eq_true, if_false]
    rw [rep_fold]
    have e2 : (⟨#[] ++ (List.replicate n.toNat c).toArray⟩ : Str) = repS c n.toNat := by
      unfold repS
      rw [Array.empty_append]
    rw [e2]
    refine ⟨?_, .str _, H, I.tok _, ⟨_, rfl⟩, q⟩
    show (List.replicate n.toNat c).toArray.size ≤ _
    rw [List.size_toArray, List.length_replicate]
    exact Nat.le_trans (show n.toNat ≤ 100000 by omega) (by decide)
theorem pe_partS {apos pos : Pos} (ho : PE X o to) (he : PE X e te) (hs : starEach [e] X.env = [(false, eval e X.env)] := by rfl) (hbase : attributeBase o "partition" X.env (eval o X.env) = eval o X.env := by rfl) (hline : (apos.endLine == pos.line) = true := by rfl) :
    PE X (.Call (.Attribute o "partition" apos) [e] [] pos) (tM1 rPart to te) := pe_m1 F.slot_str_partition F.type_str_partition mt_partition ho he hs hbase hline
theorem pe_findS {apos pos : Pos} (ho : PE X o to) (he : PE X e te) (hs : starEach [e] X.env = [(false, eval e X.env)] := by rfl) (hbase : attributeBase o "find" X.env (eval o X.env) = eval o X.env := by rfl) (hline : (apos.endLine == pos.line) = true := by rfl) :
    PE X (.Call (.Attribute o "find" apos) [e] [] pos) (tM1 rFind to te) := pe_m1 F.slot_str_find F.type_str_find mt_find ho he hs hbase hline
theorem pe_countS {apos pos : Pos} (ho : PE X o to) (he : PE X e te) (hs : starEach [e] X.env = [(false, eval e X.env)] := by rfl) (hbase : attributeBase o "count" X.env (eval o X.env) = eval o X.env := by rfl) (hline : (apos.endLine == pos.line) = true := by rfl) :
    PE X (.Call (.Attribute o "count" apos) [e] [] pos) (tM1 rCount to te) := pe_m1 F.slot_str_count F.type_str_count mt_count ho he hs hbase hline
theorem pe_joinS {apos pos : Pos} (ho : PE X o to) (he : PE X e te) (hs : starEach [e] X.env = [(false, eval e X.env)] := by rfl) (hbase : attributeBase o "join" X.env (eval o X.env) = eval o X.env := by rfl) (hline : (apos.endLine == pos.line) = true := by rfl) :
    PE X (.Call (.Attribute o "join" apos) [e] [] pos) (tM1 (rJoin X.K) to te) := pe_m1 F.slot_str_join F.type_str_join mt_join ho he hs hbase hline
theorem pe_joinedS {v1 v2 : Expr} {rest : List Expr} {ts : List TE} {pos : Pos} (h : PJ X (v1 :: v2 :: rest) ts) : PE X (.JoinedStr (v1 :: v2 :: rest) pos) (tJoined ts) := pe_joined h
end
/-! ### isinstance(why, a built-in class) -/
end U.N
namespace U
open PySem PyProof.Rows L2 Evl
noncomputable def rIsDT (K : Fg) (a : Addr) (cls : Value) (d : Option Addr) (C : Addr) (T : String) : List V → Hp → VK → Prop := fun xs H Q => ∃ (dd : Addr) (fs : List (Str × V)) (b : Bool), xs = [.ref a, .ty T] ∧ cls = .ref C ∧ d = some dd ∧ H dd = some (.xd fs) ∧ PySem.W.kitOne K (.ref C) (.type T) = some b ∧ Q (.bl b) H
theorem call_isDT {X : Cx} {a C : Addr} {T : String} {oe : Obj} {cls : Value} {d : Option Addr} {pn : List (Addr × Obj)} (X1 : XfC X.K C) (S : IsX X.K C) (hz : Zc cls d oe) (hf : ∃ vs, oe.data = .fields vs) : CallR (X.suite a ((a, oe) :: pn)) (.builtin "isinstance") (rIsDT X.K a cls d C T) := by
  intro pins s σ H xs us Q I r h
  obtain ⟨dd, fs, b, rfl, ec, ed, eH, ek, q⟩ := h
  subst ec
  subst ed
  cases r with
  | cons rx rr =>
    cases rr with
    | cons rt rr =>
      cases rr
      cases rx
      cases rt
      have at0 := (I.pin (a, oe) (List.mem_append_left _ List.mem_cons_self)).1
      obtain ⟨vs, hd⟩ := hf
      have hx : ObjOk X.prog X.w H s.heap dd (.xd fs) := I.hok dd _ eH
      obtain ⟨mA, hns, _⟩ := hx
      obtain ⟨od, ho, _⟩ := lookIn_ns hns
      have J : PySem.W.InstAt s.heap a oe C (some od) := ⟨at0, hz.1, by unfold PySem.W.notCls; rw [hd] <;> rfl, by rw [hz.2]; exact ho⟩
      have hcl : (PySem.W.clsIn X.K C).isSome = true := by
        obtain ⟨cd, hc, _⟩ := PySem.W.any_some X1.hdC
        rw [hc]
        rfl
      exact PySem.W.kia_one (PySem.W.kitx_exc hcl X1.ga X1.gg X1.exC S.ha S.hn S.ht S.hm) I.kIn J ek (fun z => nomatch z) fun tk => ⟨.bl b, H, I.kept (t' := tk) fun _ _ z => z, rfl, q⟩
end U
namespace U.N
open PySem PyProof.Rows L2 Evl
/-! ### what suffices -/
section
variable {K : Fg} {cs : Cs} {W : WX} {G : Gam} {φ : PyData → Prop} {ε : Xw → Prop} {ι : List PyData → Prop} {te ta tb : TE}
theorem ew_lenS {ta : TA} (h : AW K cs W ta G (fun xs => ∃ z : Str, xs = [.str z] ∧ z.length ≤ sizeLine ∧ φ (.int z.length)) ε) : EW K cs W (tCB rLenS ta) G φ ε := ew_cb (aw_mono h fun xs ⟨z, e, hl, p⟩ Wd B ad H0 H σ vs S d Q q => by
  subst e
  cases d with
  | cons h1 t =>
    cases t
    cases h1
    exact ⟨z, rfl, hl, q _ p _ H S Xb.refl (.int _)⟩)
theorem ew_intS {ta : TA} (h : AW K cs W ta G (fun xs => ∃ (z : Str) (n : Int), xs = [.str z] ∧ PySem.intText? z = some n ∧ z.length ≤ 640 ∧ φ (.int n)) ε) : EW K cs W (tCB rIntS ta) G φ ε := ew_cb (aw_mono h fun xs ⟨z, n, e, hn, hl, p⟩ Wd B ad H0 H σ vs S d Q q => by
  subst e
  cases d with
  | cons h1 t =>
    cases t
    cases h1
    exact ⟨z, n, rfl, hn, hl, q _ p _ H S Xb.refl (.int _)⟩)
theorem ew_strI {ta : TA} (h : AW K cs W ta G (fun xs => ∃ i : Int, xs = [.int i] ∧ i.natAbs.log2 < 1920 ∧ φ (.str (toString i))) ε) : EW K cs W (tCB rStrI ta) G φ ε := ew_cb (aw_mono h fun xs ⟨i, e, hl, p⟩ Wd B ad H0 H σ vs S d Q q => by
  subst e
  cases d with
  | cons h1 t =>
    cases t
    cases h1
    exact ⟨i, rfl, hl, q _ p _ H S Xb.refl (.str _)⟩)
theorem ew_addStr (h : EW K cs W ta G (fun x => ∃ i, x = .str i ∧ EW K cs W tb G (fun y => ∃ j, y = .str j ∧ i.length + j.length ≤ sizeLine ∧ φ (.str (i ++ j))) ε) ε) : EW K cs W (tOp rAddStr ta tb) G φ ε :=
  ew_op (ew_mono h fun x ⟨i, e, h⟩ => ew_mono h fun y ⟨j, e2, hl, p⟩ => fun Wd B ad H0 H σ v w S d1 d2 Q q => by
    subst e; subst e2
    cases d1; cases d2
    exact ⟨i, j, rfl, rfl, hl, q _ p _ H S Xb.refl (.str _)⟩)
theorem ew_mulStr (h : EW K cs W ta G (fun x => ∃ c, x = sg c ∧ EW K cs W tb G (fun y => ∃ n : Int, y = .int n ∧ 2 ≤ n ∧ n ≤ 100000 ∧ φ (.str (repS c n.toNat))) ε) ε) : EW K cs W (tOp rMulStr ta tb) G φ ε :=
  ew_op (ew_mono h fun x ⟨c, e, h⟩ => ew_mono h fun y ⟨n, e2, h1, h2, p⟩ => fun Wd B ad H0 H σ v w S d1 d2 Q q => by
    subst e; subst e2
    cases d1; cases d2
    exact ⟨c, n, rfl, rfl, h1, h2, q _ p _ H S Xb.refl (.str _)⟩)
theorem ew_inSg (h : EW K cs W ta G (fun x => ∃ c, x = sg c ∧ EW K cs W tb G (fun y => ∃ z : Str, y = .str z ∧ φ (.bool (decide (c ∈ z.cps.toList)))) ε) ε) : EW K cs W (tOp rInSg ta tb) G φ ε :=
  ew_op (ew_mono h fun x ⟨c, e, h⟩ => ew_mono h fun y ⟨z, e2, p⟩ => fun Wd B ad H0 H σ v w S d1 d2 Q q => by
    subst e; subst e2
    cases d1; cases d2
    exact ⟨c, z, rfl, rfl, q _ p _ H S Xb.refl (.bl _)⟩)
theorem ew_ixS (h : EW K cs W ta G (fun x => ∃ z : Str, x = .str z ∧ z.length ≤ sizeLine ∧ EW K cs W tb G (fun y => ∃ j c, y = .int j ∧ atI z.cps.toList j = some c ∧ φ (sg c)) ε) ε) : EW K cs W (tOp rIxS ta tb) G φ ε :=
  ew_op (ew_mono h fun x ⟨z, e, hl, h⟩ => ew_mono h fun y ⟨j, c, e2, hc, p⟩ => fun Wd B ad H0 H σ v w S d1 d2 Q q => by
    subst e; subst e2
    cases d1; cases d2
    exact ⟨z, j, c, rfl, rfl, hl, hc, q _ p _ H S Xb.refl (.str _)⟩)
theorem ew_slS {tl th : TO} (h : EW K cs W te G (fun x => ∃ z : Str, x = .str z ∧ z.length ≤ sizeLine ∧ OW K cs W tl G (fun lo => OW K cs W th G (fun hi => φ (.str (cutS z lo hi))) ε) ε) ε) : EW K cs W (tSl rSlS te tl th) G φ ε := fun Wd B ad H0 H σ S Q q x =>
  h Wd B ad H0 H σ S _ (fun y ⟨z, e, hl, p⟩ v H1 S1 e1 d1 => p Wd B ad H0 H1 σ S1 _ (fun lo p H2 S2 e2 => p Wd B ad H0 H2 σ S2 _ (fun hi p H3 S3 e3 => by
    subst e
    cases d1
    exact ⟨z, rfl, hl, q _ p _ H3 S3 (e1.trans (e2.trans e3)) (.str _)⟩) ((x.go e1).go e2)) (x.go e1)) x
theorem iw_str (h : EW K cs W te G (fun x => ∃ z : Str, x = .str z ∧ ι (z.cps.toList.map sg)) ε) : IW K cs W (iStr te) G ι ε := fun Wd B ad H0 H σ S R q x => h Wd B ad H0 H σ S _ (fun y ⟨z, e, p⟩ v H1 S1 e1 d1 => by
  subst e
  cases d1
  refine ⟨z, rfl, q _ p _ H1 S1 e1 fun H' Z hz e i => ⟨fun d hd => ?_, fun hl => ?_, fun x H'' hy => ?_⟩⟩
  · have := (List.getElem?_eq_some_iff.mp hd).1
    rw [List.length_map, Array.length_toList] at this
    exact this
  · rw [List.length_map, Array.length_toList] at hl
    exact hl
  · obtain ⟨rfl, c, hc, rfl⟩ := hy
    refine ⟨Ex.refl _, fun d hd => ?_⟩
    rw [List.getElem?_map, Array.getElem?_toList, hc] at hd
    cases hd
    exact .str _) x
/-- a method of a text with one text -/
theorem ew_m1 {r : V → List V → Hp → VK → Prop} (h : EW K cs W ta G (fun x => ∃ a : Str, x = .str a ∧ EW K cs W tb G (fun y => ∀ Wd B ad H0 H σ w, Sta K Wd B ad H0 H σ G → Dp K (less H (Zs Wd B ad G)) w y → ∀ Q : VK, (∀ z, φ z → ∀ v H2, Sta K Wd B ad H0 H2 σ G → Xb B H H2 → Dp K (less H2 (Zs Wd B ad G)) v z → Q v H2) → r (.str a) [w] H Q) ε) ε) : EW K cs W (tM1 r ta tb) G φ ε := fun Wd B ad H0 H σ S Q q x =>
  h Wd B ad H0 H σ S _ (fun x1 ⟨a, ea, p1⟩ v H1 S1 e1 d1 => by
    subst ea
    cases d1
    exact ⟨⟨a, rfl⟩, p1 Wd B ad H0 H1 σ S1 _ (fun y p2 w H2 S2 e2 d2 => p2 Wd B ad H0 H2 σ w S2 d2 Q fun z p v H3 S3 e3 d3 => q z p v H3 S3 ((e1.trans e2).trans e3) d3) (x.go e1)⟩) x
theorem ew_findS (h : EW K cs W ta G (fun x => ∃ a : Str, x = .str a ∧ EW K cs W tb G (fun y => ∃ b : Str, y = .str b ∧ φ (.int (Txt.find a b))) ε) ε) : EW K cs W (tM1 rFind ta tb) G φ ε :=
  ew_m1 (ew_mono h fun x ⟨a, ea, h⟩ => ⟨a, ea, ew_mono h fun y ⟨b, eb, p⟩ => fun Wd B ad H0 H σ w S d Q q => by
    subst eb
    cases d
    exact ⟨a, b, rfl, rfl, q _ p _ H S Xb.refl (.int _)⟩⟩)
theorem ew_countS (h : EW K cs W ta G (fun x => ∃ a : Str, x = .str a ∧ EW K cs W tb G (fun y => ∃ b : Str, y = .str b ∧ φ (.int (Txt.count a b))) ε) ε) : EW K cs W (tM1 rCount ta tb) G φ ε :=
  ew_m1 (ew_mono h fun x ⟨a, ea, h⟩ => ⟨a, ea, ew_mono h fun y ⟨b, eb, p⟩ => fun Wd B ad H0 H σ w S d Q q => by
    subst eb
    cases d
    exact ⟨a, b, rfl, rfl, q _ p _ H S Xb.refl (.int _)⟩⟩)
theorem ew_partS (h : EW K cs W ta G (fun x => ∃ a : Str, x = .str a ∧ EW K cs W tb G (fun y => ∃ b : Str, y = .str b ∧ (b.length == 0) = false ∧ a.length ≤ sizeLine ∧ φ (.tuple [.str (Txt.partition a b).1, .str (Txt.partition a b).2.1, .str (Txt.partition a b).2.2])) ε) ε) : EW K cs W (tM1 rPart ta tb) G φ ε :=
  ew_m1 (ew_mono h fun x ⟨a, ea, h⟩ => ⟨a, ea, ew_mono h fun y ⟨b, eb, hb, hl, p⟩ => fun Wd B ad H0 H σ w S d Q q => by
    subst eb
    cases d
    refine ⟨a, b, rfl, rfl, hb, hl, fun p' hp => ?_⟩
    obtain ⟨S2, e2, g⟩ := new_ex (o := .tup [.str (Txt.partition a b).1, .str (Txt.partition a b).2.1, .str (Txt.partition a b).2.2]) S hp
    exact q _ p _ _ S2 e2 (.tup (st_of g) (.cons (.str _) (.cons (.str _) (.cons (.str _) .nil))))⟩)
theorem strs_of_dpa {H : Hp} : ∀ {ys : List Str} {vs : List V}, DpAll K H vs (ys.map PyData.str) → vs = ys.map V.str
  | [], _, .nil => rfl
  | _ :: ys, _, .cons h t => by cases h; rw [strs_of_dpa t]; rfl
theorem ew_joinS (h : EW K cs W ta G (fun x => ∃ a : Str, x = .str a ∧ EW K cs W tb G (fun y => ∃ ys : List Str, y = .list (ys.map PyData.str) ∧ (ys.map (·.length)).sum + ys.length * a.length ≤ 16777216 ∧ φ (.str (Txt.join a ys))) ε) ε) : EW K cs W (tM1 (rJoin K) ta tb) G φ ε :=
  ew_m1 (ew_mono h fun x ⟨a, ea, h⟩ => ⟨a, ea, ew_mono h fun y ⟨ys, eb, hl, p⟩ => fun Wd B ad H0 H σ w S d Q q => by
    subst eb
    cases d with
    | @lst a2 vs _ g t =>
      rw [strs_of_dpa t] at g
      exact ⟨a, a2, ys, rfl, rfl, .inl (ex_l less_ex g), hl, q _ p _ H S Xb.refl (.str _)⟩⟩)
theorem ew_fmt (h : EW K cs W te G (fun x => (∃ y : Str, x = .str y ∧ y.length ≤ sizeLine ∧ φ (.str y)) ∨ ∃ i : Int, x = .int i ∧ i.natAbs.log2 < 1920 ∧ φ (.str (toString i))) ε) : EW K cs W (tFmt te) G φ ε := fun Wd B ad H0 H σ S Q q x =>
  h Wd B ad H0 H σ S _ (fun x1 p v H1 S1 e1 d1 => by
    rcases p with ⟨y, rfl, hl, p⟩ | ⟨i, rfl, hl, p⟩
    · cases d1
      exact .inl ⟨y, rfl, hl, q _ p _ H1 S1 e1 (.str _)⟩
    · cases d1
      exact .inr ⟨i, rfl, hl, q _ p _ H1 S1 e1 (.str _)⟩) x
/-- the parts of an f-string one behind the other -/
noncomputable def JW (K : Fg) (cs : Cs) (W : WX) (G : Gam) (ε : Xw → Prop) (ω : Str → Prop) : List TE → Str → Prop
  | [], acc => ω acc
  | t :: ts, acc => EW K cs W t G (fun x => ∃ y : Str, x = .str y ∧ (acc ++ y).length ≤ sizeLine ∧ JW K cs W G ε ω ts (acc ++ y)) ε
theorem jw_run {ω : Str → Prop} : ∀ {ts : List TE} {acc : Str}, JW K cs W G ε ω ts acc → ∀ Wd B ad H0 H σ, Sta K Wd B ad H0 H σ G → ∀ Q : Str → Hp → Prop, (∀ z, ω z → ∀ H2, Sta K Wd B ad H0 H2 σ G → Xb B H H2 → Q z H2) → XP K cs W Wd B ad H0 H σ G ε → tJs ts acc σ H Q
  | [], acc, h, Wd, B, ad, H0, H, σ, S, Q, q, x => q _ h H S Xb.refl
  | t :: ts, acc, h, Wd, B, ad, H0, H, σ, S, Q, q, x => h Wd B ad H0 H σ S _ (fun x1 ⟨y, ey, hl, p⟩ v H1 S1 e1 d1 => by
    subst ey
    cases d1
    exact ⟨y, rfl, hl, jw_run p Wd B ad H0 H1 σ S1 Q (fun z hz H2 S2 e2 => q z hz H2 S2 (e1.trans e2)) (x.go e1)⟩) x
theorem ew_joined {ts : List TE} (h : JW K cs W G ε (fun z => φ (.str z)) ts Str.empty) : EW K cs W (tJoined ts) G φ ε := fun Wd B ad H0 H σ S Q q x =>
  jw_run h Wd B ad H0 H σ S _ (fun z hz H2 S2 e2 => q _ hz _ H2 S2 e2 (.str _)) x
theorem jw_cons {ω : Str → Prop} {t : TE} {ts : List TE} {acc : Str} (h : EW K cs W t G (fun x => ∃ y : Str, x = .str y ∧ (acc ++ y).length ≤ sizeLine ∧ JW K cs W G ε ω ts (acc ++ y)) ε) : JW K cs W G ε ω (t :: ts) acc := h
theorem jw_nil {ω : Str → Prop} {acc : Str} (h : ω acc) : JW K cs W G ε ω [] acc := h
/-- isinstance(why, a built-in class), why caught as a C -/
theorem ew_isDT {i : Nat} {a dd C : Addr} {T : String} {fs : List (Str × V)} {b : Bool} (hi : G[i]? = some (.xc a dd fs)) (hk : PySem.W.kitOne K (.ref C) (.type T) = some b) (p : φ (.bool b)) : EW K cs W (tCB (rIsDT K a (.ref C) (some dd) C T) (tCons (tVar i) (tCons (tC (V.ty T)) tNil))) G φ ε := fun Wd B ad H0 H σ S Q q _ => by
  obtain ⟨o, g1, rfl, g2⟩ := S.at_ i _ hi
  exact ⟨_, g1, dd, fs, b, rfl, rfl, rfl, (less_some g2).2, hk, q _ p _ H S Xb.refl (.bl _)⟩
end
end U.N

end
namespace U.N
open PySem PyProof.Rows L2 Evl
local macro_rules | `(tactic| walk_at "sd") => `(tactic| first | with_reducible assumption | omega | rfl | decide | assumption | exact Gd.mono (by assumption) (by first | decide | omega) | (simp only [List.length_map, List.length_append, List.length_cons, List.length_nil]; omega) | (simp; done))
local macro_rules | `(tactic| walk_at "ca") => `(tactic| first
  | ((with_reducible apply c_pull); (case h0 => walk_at "sd"); (case h1 => walk_at "sd"); intro _ _ _)
  | ((with_reducible apply c_part); intro _ _)
  | ((with_reducible apply c_far); intro _ _)
  | ((with_reducible apply c_farPart); intro _ _)
  | ((with_reducible apply c_wholePart); intro _ _)
  | ((with_reducible apply c_entry); intro _ _)
  | ((with_reducible apply c_plus); (case hp => walk_at "sd"); (case hq => walk_at "sd"); (case hl => walk_at "sd"); intro _)
  | ((with_reducible apply c_minus); (case hp => walk_at "sd"); (case hq => walk_at "sd"); (case hl => walk_at "sd"); intro _)
  | ((with_reducible apply c_times); (case hp => walk_at "sd"); (case hq => walk_at "sd"); (case hl => walk_at "sd"); intro _)
  | ((with_reducible apply c_ladd); (case hp => walk_at "sd"); (case hq => walk_at "sd"); (case hl => walk_at "sd"); intro _)
  | ((with_reducible apply c_lsub); (case hp => walk_at "sd"); (case hq => walk_at "sd"); (case hl => walk_at "sd"); intro _)
  | ((with_reducible apply c_lmul); (case hp => walk_at "sd"); (case hq => walk_at "sd"); (case hl => walk_at "sd"); intro _)
  | ((with_reducible apply c_order); (case hp => walk_at "sd"); (case hq => walk_at "sd"); (case hl => walk_at "sd"))
  | ((with_reducible apply c_cmp); (case hp => walk_at "sd"); (case hq => walk_at "sd"); (case hl => walk_at "sd"))
  | ((with_reducible apply c_map); (case h1 => walk_at "sd"); (case h2 => walk_at "sd"); (case l1 => walk_at "sd"); (case l2 => walk_at "sd"); intro _ _)
  | ((with_reducible apply c_spot); (case h0 => walk_at "sd"); (case hl => walk_at "sd"); intro _ _ _)
  | ((with_reducible apply c_over); (case hp => walk_at "sd"); (case hq => walk_at "sd"); (case hl => walk_at "sd"); (case hne => walk_at "sd"); intro _))
local macro_rules | `(tactic| walk_at "s1") => `(tactic| first
  | ((with_reducible apply x_all); (case h => exact allB_map))
  | ((with_reducible apply x_any); (case h => exact anyB_map))
  | ((with_reducible apply x_sum); (case h => exact sumI_map))
  | ((with_reducible apply ew_glob); (case h => assumption))
  | ((with_reducible apply sw_app); (case hi => rfl); (case hl => walk_at "sd"))
  | ((with_reducible apply cw_elt); (case hm => walk_at "sd"))
  | ((with_reducible apply sw_clear); (case hi => rfl))
  | ((with_reducible apply x1_rng); (case hb => walk_at "sd"))
  | ((with_reducible apply x2_rng); (case hb => walk_at "sd"); (case hc => walk_at "sd"))
  | ((with_reducible apply ew_var); (case h => rfl))
  | ((with_reducible apply ew_ixO); (case hi => rfl))
  | ((with_reducible apply ew_lenO); (case hi => rfl))
  | ((with_reducible apply ew_tupO); (case hi => rfl))
  | ((with_reducible apply ew_listO); (case hi => rfl))
  | ((with_reducible apply ew_callB); (case hi => rfl))
  | ((with_reducible apply ew_callWB); (case hi => rfl))
  | ((with_reducible apply at0); (case h => rfl))
  | ((with_reducible apply at1); (case h => rfl))
  | ((with_reducible apply at2); (case h => rfl))
  | ((with_reducible apply xi_it); (case h => rfl))
  | ((with_reducible apply x1_it); (case h => rfl))
  | ((with_reducible apply ew_dxO); (case hi => rfl))
  | ((with_reducible apply ew_dxF); (case hi => rfl))
  | ((with_reducible apply ew_dgetO); (case hi => rfl))
  | ((with_reducible apply ew_dgetF); (case hi => rfl))
  | ((with_reducible apply iw_dct); (case hi => rfl))
  | ((with_reducible apply ew_inSO); (case hi => rfl))
  | ((with_reducible apply ew_indexO); (case hi => rfl))
  | with_reducible refine ew_int ?_
  | with_reducible refine ew_bl ?_
  | with_reducible refine ew_str ?_
  | with_reducible refine ew_non ?_
  | with_reducible refine ew_tup0 ?_
  | with_reducible refine ew_tup1 ?_
  | with_reducible refine ew_tup2 ?_
  | with_reducible refine ew_tup3 ?_
  | with_reducible refine ew_tup4 ?_
  | with_reducible refine ew_tup ?_
  | with_reducible refine ew_lst0 ?_
  | with_reducible refine ew_lst1 ?_
  | with_reducible refine ew_lst2 ?_
  | with_reducible refine ew_lst3 ?_
  | with_reducible refine ew_lst ?_
  | with_reducible refine ew_add ?_
  | with_reducible refine ew_sub ?_
  | with_reducible refine ew_mul ?_
  | with_reducible refine ew_div ?_
  | with_reducible refine ew_mod ?_
  | with_reducible refine ew_pow ?_
  | with_reducible refine ew_lt ?_
  | with_reducible refine ew_le ?_
  | with_reducible refine ew_gt ?_
  | with_reducible refine ew_ge ?_
  | with_reducible refine ew_neg ?_
  | with_reducible refine ew_eq ?_
  | with_reducible refine ew_ne ?_
  | with_reducible refine ew_eqD ?_
  | with_reducible refine ew_neD ?_
  | with_reducible refine ew_subB ?_
  | with_reducible refine ew_isNo ?_
  | with_reducible refine ew_noNo ?_
  | with_reducible refine ew_isBl ?_
  | with_reducible refine ew_notBl ?_
  | with_reducible refine ew_leLe ?_
  | with_reducible refine tw_test ?_
  | with_reducible refine tw_B ?_
  | with_reducible refine tw_yes ?_
  | with_reducible refine tw_not ?_
  | with_reducible refine tw_and ?_
  | with_reducible refine tw_or ?_
  | with_reducible refine ew_andV ?_
  | with_reducible refine ew_orV ?_
  | with_reducible refine ew_notV ?_
  | with_reducible refine ew_if ?_
  | with_reducible refine aw_nil ?_
  | with_reducible refine aw_cons ?_
  | with_reducible refine ew_cP ?_
  | with_reducible refine ew_cX ?_
  | with_reducible refine ew_c0 ?_
  | with_reducible refine ew_cW ?_
  | with_reducible refine ew_abs ?_
  | with_reducible refine ew_max ?_
  | with_reducible refine ew_min ?_
  | with_reducible refine ew_intB ?_
  | with_reducible refine ew_len ?_
  | with_reducible refine ew_list ?_
  | with_reducible refine ew_tuple ?_
  | with_reducible refine ew_all ?_
  | with_reducible refine ew_any ?_
  | with_reducible refine ew_sum ?_
  | with_reducible refine ew_isi ?_
  | with_reducible refine ew_isi2 ?_
  | with_reducible refine ow_none ?_
  | with_reducible refine ow_some ?_
  | with_reducible refine ew_slL ?_
  | with_reducible refine ew_slA ?_
  | with_reducible refine ew_catL ?_
  | with_reducible refine ew_catA ?_
  | with_reducible refine ew_inI ?_
  | with_reducible refine ew_lc ?_
  | with_reducible refine ew_lcN ?_
  | with_reducible refine cw_clause ?_
  | with_reducible refine ew_revL ?_
  | with_reducible refine ew_srt ?_
  | with_reducible refine ew_inS ?_
  | with_reducible refine ew_maxL ?_
  | with_reducible refine ew_minL ?_
  | with_reducible refine iw_list ?_
  | with_reducible refine iw_tup ?_
  | with_reducible refine iw_seq ?_
  | with_reducible refine iw_rng1 ?_
  | with_reducible refine iw_rng2 ?_
  | with_reducible refine iw_zipM ?_
  | with_reducible refine iw_enum ?_
  | with_reducible refine sq_nx ?_
  | with_reducible refine sq_rt ?_
  | with_reducible refine sq_rl ?_
  | with_reducible refine sq_bk ?_
  | with_reducible refine sq_ct ?_
  | with_reducible refine sq_ex ?_
  | with_reducible refine lp_nx ?_
  | with_reducible refine lp_ct ?_
  | with_reducible refine lp_bk ?_
  | with_reducible refine lp_rt ?_
  | with_reducible refine lp_ex ?_
  | with_reducible refine sw_next ?_
  | with_reducible refine sw_brk ?_
  | with_reducible refine sw_cont ?_
  | with_reducible refine sw_if ?_
  | with_reducible refine sw_par ?_
  | with_reducible refine sw_ret ?_
  | with_reducible refine sw_retN ?_
  | with_reducible refine sw_dropC ?_
  | with_reducible refine sw_dropX ?_
  | with_reducible refine sw_for ?_
  | with_reducible refine sw_try ?_
  | with_reducible refine gsc_nil ?_
  | with_reducible refine gsc_cons ?_
  | with_reducible refine gsw_nil ?_
  | with_reducible refine gsw_cons ?_
  | with_reducible refine rE_ok ?_
  | with_reducible refine rE_fl ?_
  | with_reducible refine rE_er ?_
  | with_reducible refine rF_fl ?_
  | with_reducible refine atm1 ?_
  | with_reducible refine xi_int ?_
  | with_reducible refine xi_bool ?_
  | with_reducible refine xi_str ?_
  | with_reducible refine xi_tup ?_
  | with_reducible refine xi_list ?_
  | with_reducible refine xi_itL ?_
  | with_reducible refine xi_itT ?_
  | with_reducible refine x1_int ?_
  | with_reducible refine x1_bool ?_
  | with_reducible refine x2_int ?_
  | with_reducible refine x2_any ?_
  | with_reducible refine x1_itL ?_
  | with_reducible refine x1_itT ?_
  | with_reducible refine sc_int ?_
  | with_reducible refine sc_str ?_
  | with_reducible refine sc_bool ?_
  | with_reducible refine x_ol ?_
  | with_reducible refine atm1M ?_
  | with_reducible refine x_nx ?_
  | with_reducible refine ew_lenS ?_
  | with_reducible refine ew_intS ?_
  | with_reducible refine ew_strI ?_
  | with_reducible refine ew_addStr ?_
  | with_reducible refine ew_mulStr ?_
  | with_reducible refine ew_inSg ?_
  | with_reducible refine ew_ixS ?_
  | with_reducible refine ew_slS ?_
  | with_reducible refine iw_str ?_
  | with_reducible refine ew_findS ?_
  | with_reducible refine ew_countS ?_
  | with_reducible refine ew_partS ?_
  | with_reducible refine ew_joinS ?_
  | with_reducible refine ew_fmt ?_
  | with_reducible refine ew_joined ?_
  | with_reducible refine jw_cons ?_
  | with_reducible refine jw_nil ?_
  | with_reducible refine ew_ix ?_
  | with_reducible refine ew_callNW ?_
  | with_reducible refine ew_callN ?_
  | with_reducible refine ew_callN0 ?_
  | with_reducible refine gw_name ?_
  | ((with_reducible refine gc_name ?wa ?_); (case wa => simp))
  | ((with_reducible refine gc_tup ?wa ?_); (case wa => rfl))
  | ((with_reducible refine gw_tup ?wa ?_); (case wa => rfl))
  | with_reducible refine cnd_t ?_
  | with_reducible refine cnd_f ?_
  | with_reducible refine cnd_nt ?_
  | with_reducible refine cnd_nf ?_
  | walk_at "ca"
  | ((with_reducible apply zip_f); (case hx => rfl); (case hy => rfl))
  | ((with_reducible apply zip_t); (case hx => rfl); (case hy => rfl); (case hl => walk_at "sd"))
  | with_reducible refine sw_asg ?_
  | ((with_reducible apply sw_dset); (case hi => rfl))
  | ((with_reducible apply sw_setI); (case hi => rfl))
  | with_reducible refine sw_asgT ?_
  | refine gsw_cons ?_
  | refine gsc_cons ?_
  | refine gsw_nil ?_
  | refine gsc_nil ?_
  | with_reducible exact trivial)
local macro_rules | `(tactic| walk_at "w1") => `(tactic| first | walk_at "s1" | with_reducible refine sw_seqA ?_ | with_reducible refine sw_seqD ?_ | with_reducible refine sw_seqF ?_ | with_reducible refine sw_seqP ?_ | with_reducible refine sw_seqG ?_ | with_reducible refine sw_seqW ?_)
local macro_rules | `(tactic| walk_at "s") => `(tactic| repeat walk_at "s1")
local macro_rules | `(tactic| walk_at "ef") => `(tactic| first
  | with_reducible refine ef_lst0 ?_
  | with_reducible refine ef_lst1 ?_
  | with_reducible refine ef_lst2 ?_
  | with_reducible refine ef_lst3 ?_
  | with_reducible refine ef_lst ?_
  | with_reducible refine ef_lc ?_
  | with_reducible refine ef_lcN ?_
  | with_reducible refine ef_list ?_
  | with_reducible refine ef_slL ?_
  | with_reducible refine ef_catL ?_
  | with_reducible refine ef_c0 ?_
  | with_reducible refine ef_cW ?_
  | with_reducible refine ef_if ?_
  | with_reducible refine ef_dct0 ?_
  | with_reducible refine ef_dc ?_
  | with_reducible refine ef_srt ?_
  | with_reducible refine ef_revL ?_)
local macro_rules | `(tactic| walk_at "wi") => `(tactic| repeat (first | walk_at "w1" | with_reducible refine sw_seq ?_))
local macro_rules | `(tactic| walk_at "w") => `(tactic| repeat walk_at "w1")
section
open PySem PyProof.Rows L2 Evl

section
variable {K : Fg} {cs : Cs} {gs : Gs} {φ : PyData → Prop} {A : Rs → Prop} {ε : Xw → Prop} {w : World}
/-! ### spots in order -/
-- slots of common_below: 0 spots, 1 found, 2 spot, 3 above, 4 below
theorem c_gcd {a b : Int} (h : φ (.int (gI a b))) : ∃ r, P_gcd [.int a, .int b] r ∧ φ r := ⟨_, ⟨a, b, rfl, rfl⟩, h⟩
-- slots of whole_row: 0 spot, 1 common, 2 above, 3 below
-- slots of rising: 0 spots, 1 common, 2 by_worth, 3 spot, 4 key
/-! what a dict by a comprehension holds -/
section
variable {κ β γ : Type} [DecidableEq κ]
end
end


end
section
open PySem PyProof.Rows L2 Evl

section
variable {K : Fg} {cs : Cs} {gs : Gs} {φ : PyData → Prop} {A : Rs → Prop} {ε : Xw → Prop} {w : World}
/-! ### the law's own order -/
-- slots of _law_below: 0 _law_spots_here, 1 _law_found, 2 _law_spot_here, 3 _law_one
-- slots of _law_key: 0 _law_spots_here, 1 _law_below_here, 2 _law_found, 3 _law_spot_here, 4 _law_one
-- slots of _law_rising: 0 _law_spots_here, 1 _law_below_here, 2 _law_keys, 3 _law_found, 4 _law_key_here, 5 _law_spot_here, 6 _law_one
end


end
section
open PySem PyProof.Rows L2 Evl U.Hull

section
variable {K : Fg} {cs : Cs} {gs : Gs} {φ : PyData → Prop} {A : Rs → Prop} {ε : Xw → Prop} {w : World}
/-! ### corners round -/
-- slots of hull_side: 0 spots, 1 found, 2 spot
end


end
section
open PySem PyProof.Rows L2 Evl U.Hull

section
variable {K : Fg} {cs : Cs} {gs : Gs} {φ : PyData → Prop} {A : Rs → Prop} {ε : Xw → Prop} {w : World}
-- slots of corners_round: 0 spots, 1 row, 2 below, 3 above
end


end
section
open PySem PyProof.Rows L2 Evl U.Hull

section
variable {K : Fg} {cs : Cs} {gs : Gs} {φ : PyData → Prop} {A : Rs → Prop} {ε : Xw → Prop} {w : World}
/-! ### the law's own body -/
noncomputable instance (h r q : Pt) : Decidable (Btw h r q) := by unfold Btw; exact inferInstance
-- slots of _law_between: 0 _law_one, 1 _law_two, 2 _law_spot_here, 3 _law_at
/-! what follows a corner -/
noncomputable instance (P : List Pt) (h q : Pt) : Decidable (Nx P h q) := by unfold Nx; exact inferInstance
-- slots of _law_next: 0 _law_row, 1 _law_here, 2 _law_spot_here, 3 _law_one
end


end
section
open PySem PyProof.Rows L2 Evl U.Hull

section
variable {K : Fg} {cs : Cs} {gs : Gs} {φ : PyData → Prop} {A : Rs → Prop} {ε : Xw → Prop} {w : World}
-- slots of _law_body: 0 _law_spots_here, 1 _law_row, 2 _law_found, 3 _law_step, 4 _law_spot_here
end


end
section
open PySem PyProof.Rows L2 Evl U.Hull

section
variable {K : Fg} {cs : Cs} {gs : Gs} {φ : PyData → Prop} {A : Rs → Prop} {ε : Xw → Prop} {w : World}
/-! ### drawn rooms and spots -/
-- slots of _law_room: 0 _law_bag_here
-- slots of _law_spots: 0 _law_bag_here, 1 _law_rank, 2 _law_limit, 3 _law_many, 4 _law_found, 5 _law_kind, 6 _law_one, 7 _law_two, 8 _law_at
-- slots of _law_wide_spots: 0 _law_bag_here, 1 _law_rank, 2 _law_limit, 3 _law_found, 4 _law_k, 5 _law_at
end


end
section
open PySem PyProof.Rows L2 Evl U.Hull

section
variable {K : Fg} {cs : Cs} {gs : Gs} {φ : PyData → Prop} {A : Rs → Prop} {ε : Xw → Prop} {w : World}
/-! ### sides, land -/
-- slots of sides_of: 0 body, 1 at, 2 corner
-- slots of size_of: 0 body
-- slots of land_of: 0 body, 1 found, 2 x, 3 y, 4 right, 5 up
end


end
section
open PySem PyProof.Rows L2 Evl U.Hull

section
variable {K : Fg} {cs : Cs} {gs : Gs} {φ : PyData → Prop} {A : Rs → Prop} {ε : Xw → Prop} {w : World}
-- slots of _law_three_land: 0 _law_one, 1 _law_two, 2 _law_three, 3 _law_first, 4 _law_second, 5 _law_third
/-! what is needed of bodies -/
end


end
section
open PySem PyProof.Rows L2 Evl U.Hull

section
variable {K : Fg} {cs : Cs} {gs : Gs} {φ : PyData → Prop} {A : Rs → Prop} {ε : Xw → Prop} {w : World}
/-! ### bodies in order, faces -/
-- slots of in_order: 0 bodies, 1 common, 2 by_worth, 3 body, 4 key, 5 corner, 6 number
end


end
section
open PySem PyProof.Rows L2 Evl U.Hull

section
variable {K : Fg} {cs : Cs} {gs : Gs} {φ : PyData → Prop} {A : Rs → Prop} {ε : Xw → Prop} {w : World}
/-! ### == of data by a type -/
/-! ### keys with places, sorted -/
/-! ### the law's own order of bodies -/
-- slots of _law_in_order: 0 _law_bodies, 1 _law_limit, 2 _law_body_here, 3 _law_keys, 4 _law_found, 5 _law_key_here, 6 _law_at
end


end
section
open PySem PyProof.Rows L2 Evl U.Hull

section
variable {K : Fg} {cs : Cs} {gs : Gs} {φ : PyData → Prop} {A : Rs → Prop} {ε : Xw → Prop} {w : World}
/-! ### faces -/
-- slots of faces: 0 body, 1 found, 2 corner, 3 side
end


end
section
open PySem PyProof.Rows L2 Evl U.Hull

section
variable {K : Fg} {cs : Cs} {gs : Gs} {φ : PyData → Prop} {A : Rs → Prop} {ε : Xw → Prop} {w : World} {W : WX}
/-! ### the body of some spots -/
noncomputable abbrev xw (c : Str) : Xw := ⟨c, [("word", .str c)]⟩
-- slots of body_of: 0 spots, 1 room, 2 first, 3 rest, 4 spot
/-! ### lots -/
-- slots of is_small: 0 number, 1 limit
-- slots of bounded: 0 lot, 1 weight, 2 body, 3 corner, 4 one, 5 number
end


end
section
open PySem PyProof.Rows L2 Evl U.Hull

section
variable {K : Fg} {cs : Cs} {gs : Gs} {φ : PyData → Prop} {A : Rs → Prop} {ε : Xw → Prop} {w : World} {W : WX}
/-! ### weights gathered -/
-- slots of gathered: 0 rows, 1 room, 2 weights, 3 left, 4 weight, 5 body
end


end
section
open PySem PyProof.Rows L2 Evl U.Hull

section
variable {K : Fg} {cs : Cs} {gs : Gs} {φ : PyData → Prop} {A : Rs → Prop} {ε : Xw → Prop} {w : World} {W : WX}
-- slots of settled_lot: 0 rows, 1 room
/-! ### lots of rows of spots -/
-- slots of lot_of: 0 rows, 1 room, 2 found, 3 row, 4 body
end


end
section
open PySem PyProof.Rows L2 Evl U.Hull

section
variable {K : Fg} {cs : Cs} {gs : Gs} {φ : PyData → Prop} {A : Rs → Prop} {ε : Xw → Prop} {w : World} {W : WX}
/-! ### the law's own lot -/
-- slots of _law_lot: 0 _law_rows_here, 1 _law_rank, 2 _law_bodies, 3 _law_weights, 4 _law_corners, 5 _law_body_here, 6 _law_below_here, 7 _law_keys, 8 _law_ranked, 9 _law_weight, 10 _law_spots_here, 11 _law_at, 12 _law_key_here
theorem ixN_nat {n j : Nat} (h : j < n) : ixN n (j : Int) = some j := by
  unfold ixN
  rw [if_pos (by omega), if_pos (by omega), Int.toNat_natCast]
end


end
section
open PySem PyProof.Rows L2 Evl U.Hull

section
variable {K : Fg} {cs : Cs} {gs : Gs} {φ : PyData → Prop} {A : Rs → Prop} {ε : Xw → Prop} {w : World} {W : WX}
/-! ### drawn rows -/
-- slots of _law_rows: 0 _law_bag_here, 1 _law_rank, 2 _law_limit, 3 _law_corners, 4 _law_found, 5 _law_at, 6 _law_weight, 7 _law_row
end


end
section
open PySem PyProof.Rows L2 Evl U.Hull

section
variable {K : Fg} {cs : Cs} {gs : Gs} {φ : PyData → Prop} {A : Rs → Prop} {ε : Xw → Prop} {w : World} {W : WX}
/-! ### lots in plain -/
/-! ### two lots -/
-- slots of same_room: 0 one, 1 other
-- slots of added: 0 one, 1 other
-- slots of scaled: 0 lot, 1 number, 2 weight, 3 body
-- slots of told23: 0 _law_one, 1 _law_other, 2 why
/-! ### drawn lots -/
theorem okD_i (n : Nat) (i : Int) : okD n (.int i) = true := by cases n <;> rfl
end


end
section
open PySem PyProof.Rows L2 Evl U.Hull

section
variable {K : Fg} {cs : Cs} {gs : Gs} {φ : PyData → Prop} {A : Rs → Prop} {ε : Xw → Prop} {w : World} {W : WX}
/-! ### texts as rows of signs -/
noncomputable abbrev tx (l : List Nat) : Str := ⟨l.toArray⟩
theorem tx_of (z : Str) : z = tx (TL.tl z) := (TL.mk_tl z).symm
theorem tx_len (l : List Nat) : (tx l).length = l.length := by show l.toArray.size = _; simp
theorem tx_eq {l m : List Nat} : tx l = tx m ↔ l = m := ⟨fun h => congrArg TL.tl h, fun h => by rw [h]⟩
theorem tx_app (l m : List Nat) : tx l ++ tx m = tx (l ++ m) := TL.ext_tl (by rw [TL.tl_append])
theorem tx_minus : ("-" : Str) = tx [45] := TL.ext_tl (by rw [TL.tl_ofString] <;> rfl)
theorem tx_stroke : ("/" : Str) = tx [47] := TL.ext_tl (by rw [TL.tl_ofString] <;> rfl)
theorem tx_zero : ("0" : Str) = tx [48] := TL.ext_tl (by rw [TL.tl_ofString] <;> rfl)
theorem tx_none : ("" : Str) = tx [] := TL.ext_tl (by rw [TL.tl_ofString] <;> rfl)
theorem tx_ten : TL.tl ("0123456789" : Str) = [48, 49, 50, 51, 52, 53, 54, 55, 56, 57] := by rw [TL.tl_ofString]; rfl
noncomputable def dgt (c : Nat) : Bool := decide (48 ≤ c ∧ c ≤ 57)
theorem in_ten (c : Nat) : decide (c ∈ ("0123456789" : Str).cps.toList) = dgt c := by
  rw [show ("0123456789" : Str).cps.toList = [48, 49, 50, 51, 52, 53, 54, 55, 56, 57] from tx_ten]
  unfold dgt
  congr 1
  apply propext
  simp only [List.mem_cons, List.not_mem_nil, or_false]
  omega
theorem cut_hd (l : List Nat) : cutS (tx l) none (some 1) = tx (l.take 1) := qt_of (by simp (disch := with_unfolding_all
  unfold cutS
  rw [show (some (1 : Int)) = some ((1 : Nat) : Int) from rfl, HT.sIx_none, HT.sIx_nat, tx_len]
  show tx ((l.drop 0).take (min 1 l.length - 0)) = _
  rw [List.drop_zero, tx_eq]
  rcases l with _ | ⟨a, l⟩
  · rfl
  · rw [show min 1 (a :: l).length - 0 = 1 by simp]
  ) only [↓qt_eq])
theorem cut_to {l : List Nat} {k : Nat} (h : k ≤ l.length) : cutS (tx l) none (some (k : Int)) = tx (l.take k) := by
  unfold cutS
  rw [HT.sIx_none, HT.sIx_nat, tx_len]
  show tx ((l.drop 0).take (min k l.length - 0)) = _
  rw [List.drop_zero, tx_eq, show min k l.length - 0 = k by omega]
theorem cut_from {l : List Nat} {k : Nat} (h : k ≤ l.length) : cutS (tx l) (some (k : Int)) none = tx (l.drop k) := qt_of (by simp (disch := with_unfolding_all
  unfold cutS
  rw [HT.sIx_none, HT.sIx_nat, tx_len]
  show tx ((l.drop (min k l.length)).take (l.length - min k l.length)) = _
  rw [tx_eq, show min k l.length = k by omega, List.take_of_length_le (by rw [List.length_drop]; omega)]
  ) only [↓qt_eq])
theorem cut_tl (l : List Nat) : cutS (tx l) (some 1) none = tx (l.drop 1) := by
  rcases l with _ | ⟨a, l⟩
  · rfl
  · exact cut_from (k := 1) (by simp)
/-! ### whole numbers in figures -/
noncomputable def optI : Option Int → PyData
  | none => .none
  | some n => .int n
noncomputable def figsL (l : List Nat) (m : Int) : Option Int := if 1 ≤ l.length ∧ (l.length : Int) ≤ m ∧ l.all dgt = true ∧ ¬ (l.head? = some 48 ∧ 1 < l.length) then some (NumText.digitsVal l : Nat) else none
theorem intText_of {l : List Nat} (h1 : 1 ≤ l.length) (h2 : l.length ≤ 640) (h3 : l.all dgt = true) : PySem.intText? (tx l) = some ((NumText.digitsVal l : Nat) : Int) := qt_of (by simp (disch := with_unfolding_all
  refine intText_digits (x := tx l) (fun c hc => ?_) (fun z => ?_) (by rw [tx_len]; omega)
  · have := List.all_eq_true.mp h3 c hc
    unfold dgt at this
    exact of_decide_eq_true this
  · have : l = [] := z
    rw [this] at h1
    simp at h1
  ) only [↓qt_eq])
noncomputable def P_figures : Pr := fun ds A => ∃ (l : List Nat) (m : Int), ds = [.str (tx l), .int m] ∧ l.length ≤ 100000 ∧ m ≤ 640 ∧ A (.ok (optI (figsL l m)))
noncomputable def t_figures_of (K : Fg) : TS := (tSeq (tIfS (tOr (tNot (tTest (tChain rLeI rLeI (tC (V.int 1)) (tCB rLenS (tCons (tVar 0) tNil)) (tVar 1)))) (tNot (tB (tCB (rAll K) (tCons (tLc (iStr (tVar 0)) (gName 2) tYes (tOp rInSg (tVar 2) (tC (V.str "0123456789"))) [2]) tNil))))) (tRet (tC V.non)) tNext)
  (tSeq (tIfS (tAnd (tTest (tOp rEq (tOp rIxS (tVar 0) (tC (V.int 0))) (tC (V.str "0")))) (tTest (tOp rGtI (tCB rLenS (tCons (tVar 0) tNil)) (tC (V.int 1))))) (tRet (tC V.non)) tNext)
  (tRet (tCB rIntS (tCons (tVar 0) tNil)))))
-- slots of figures_of: 0 text, 1 most, 2 sign
theorem ln_figures_of : ∀ ds A, P_figures ds A → ds.length = 2 := fun ds A h => by obtain ⟨_, _, rfl, _⟩ := h; rfl
theorem atI_zero {l : List Nat} (h : 1 ≤ l.length) : ∃ c, atI l 0 = some c ∧ l.head? = some c := by
  rcases l with _ | ⟨a, l⟩
  · simp at h
  · refine ⟨a, ?_, rfl⟩
    have : ixN (a :: l).length 0 = some 0 := by unfold ixN; rw [if_pos (by decide)]; simp
    unfold atI
    rw [this]
    rfl
theorem one_zero (c : Nat) : (⟨#[c]⟩ : Str) = "0" ↔ c = 48 := by
  rw [tx_zero]
  exact ⟨fun h => by have := congrArg TL.tl h; simpa using this, fun h => by rw [h]⟩
theorem rd_figures_of {ds A} (h : P_figures ds A) : SW K cs W0 (t_figures_of K) (frame 3 ds) (rts0 A) := qt_of (by simp (disch := with_unfolding_all
  obtain ⟨l, m, rfl, hl, hm, q⟩ := h
  have hz : (tx l).length ≤ sizeLine := by rw [tx_len]; exact Nat.le_trans hl (by decide)
  unfold t_figures_of
  refine sw_seq ?_
  walk_at "s"
  refine ⟨tx l, rfl, hz, ?_⟩
  rw [tx_len]
  walk_at "s"
  have none_ : figsL l m = none → A (.ok .none) := fun e => by rw [e] at q; exact q
  refine cnd_d (fun h1 => ?_) (fun h1 => ?_)
  rotate_left
  · refine ⟨_, rfl, cnd_nf (cnd_t ?_)⟩
    walk_at "s"
    exact none_ (if_neg fun z => h1 (by have := z.1; omega))
  walk_at "s"
  refine cnd_nd (fun h2 => cnd_t ?_) (fun h2 => ?_)
  · walk_at "s"
    exact none_ (if_neg fun z => h2 z.2.1)
  walk_at "s"
  refine lcM (f := sg) (fun c => .bool (dgt c)) (by show l.length ≤ _; omega) (unk1 rfl) (fun c _ => ?_) ?_
  · walk_at "s"
    refine ⟨c, rfl, ?_⟩
    walk_at "s"
    rw [in_ten]
  walk_at "s"
  cases hA : l.all dgt with
  | false =>
    refine cnd_T rfl ?_
    walk_at "s"
    exact none_ (if_neg fun z => by rw [hA] at z; simp at z)
  | true =>
  refine cnd_F rfl ?_
  walk_at "s"
  refine sw_seq ?_
  obtain ⟨c, c1, c2⟩ := atI_zero (l := l) (by omega)
  walk_at "s"
  refine ⟨hz, ?_⟩
  walk_at "s"
  refine ⟨0, c, rfl, c1, ?_⟩
  walk_at "s"
  have fin : ¬ (c = 48 ∧ 1 < l.length) → ∃ z n, [PyData.str (tx l)] = [PyData.str z] ∧ intText? z = some n ∧ z.length ≤ 640 ∧ rts0 A (Out.rt (PyData.int n)) := fun hn => by
    refine ⟨tx l, _, rfl, intText_of (by omega) (by omega) hA, by rw [tx_len]; omega, ?_⟩
    have e : figsL l m = some ((NumText.digitsVal l : Nat) : Int) := if_pos ⟨by omega, h2, hA, fun z => hn ⟨by have := c2.symm.trans z.1; cases this; rfl, z.2⟩⟩
    rw [e] at q
    exact q
  refine cnd_d (fun h3 => ?_) (fun h3 => cnd_f ?_)
  · walk_at "s"
    refine ⟨tx l, rfl, hz, ?_⟩
    rw [tx_len]
    walk_at "s"
    refine cnd_d (fun h4 => ?_) (fun h4 => ?_)
    · walk_at "s"
      exact none_ (if_neg fun z => z.2.2.2 ⟨by rw [c2, (one_zero c).mp h3], by omega⟩)
    · walk_at "w"
      exact fin fun z => h4 (by omega)
  · walk_at "w"
    exact fin fun z => h3 ((one_zero c).mpr z.1)
  ) only [↓qt_eq])
/-! ### a whole number with its sign -/
noncomputable def negW : Option Int → Option Int
  | some n => if n = 0 then none else some (-n)
  | none => none
noncomputable def wholeL (l : List Nat) (m : Int) : Option Int := if l.head? = some 45 then negW (figsL (l.drop 1) m) else figsL l m
noncomputable def P_wholeIn : Pr := fun ds A => ∃ (l : List Nat) (m : Int), ds = [.str (tx l), .int m] ∧ l.length ≤ 100000 ∧ m ≤ 640 ∧ A (.ok (optI (wholeL l m)))
noncomputable def t_whole_in (K : Fg) : TS := (tSeq (tIfS (tTest (tOp rNe (tSl rSlS (tVar 0) tNoPart (tPart (tC (V.int 1)))) (tC (V.str "-")))) (tRet (tCall (spW0 K P_figures) [] E0 (tCons (tVar 0) (tCons (tVar 1) tNil)))) tNext)
  (tSeq (tAsg (tCall (spW0 K P_figures) [] E0 (tCons (tSl rSlS (tVar 0) (tPart (tC (V.int 1))) tNoPart) (tCons (tVar 1) tNil))) (gName 2))
  (tRet (tIf (tOr (tTest (tOp rIsNo (tVar 2) (tC V.non))) (tTest (tOp rEq (tVar 2) (tC (V.int 0))))) (tC V.non) (tUn rNegI (tVar 2))))))
-- slots of whole_in: 0 text, 1 most, 2 found
theorem ln_whole_in : ∀ ds A, P_wholeIn ds A → ds.length = 2 := fun ds A h => by obtain ⟨_, _, rfl, _⟩ := h; rfl
theorem hd_minus (l : List Nat) : tx (l.take 1) = "-" ↔ l.head? = some 45 := by
  rw [tx_minus, tx_eq]
  rcases l with _ | ⟨a, l⟩ <;> simp
theorem rd_whole_in {ds A} (h : P_wholeIn ds A) : SW K cs W0 (t_whole_in K) (frame 3 ds) (rts0 A) := qt_of (by simp (disch := with_unfolding_all
  obtain ⟨l, m, rfl, hl, hm, q⟩ := h
  have hz : (tx l).length ≤ sizeLine := by rw [tx_len]; exact Nat.le_trans hl (by decide)
  unfold t_whole_in
  refine sw_seq ?_
  walk_at "s"
  refine ⟨hz, ?_⟩
  walk_at "s"
  rw [cut_hd]
  refine cnd_nd (fun h => ?_) (fun h => ?_)
  · walk_at "s"
    refine ⟨l, m, rfl, hl, hm, ?_⟩
    walk_at "s"
    have e : wholeL l m = figsL l m := if_neg fun z => h ((hd_minus l).mpr z)
    rw [e] at q
    exact q
  · walk_at "w"
    refine ⟨hz, ?_⟩
    walk_at "w"
    rw [cut_tl]
    refine ⟨l.drop 1, m, rfl, by rw [List.length_drop]; omega, hm, ?_⟩
    walk_at "w"
    have e : wholeL l m = negW (figsL (l.drop 1) m) := if_pos ((hd_minus l).mp h)
    rw [e] at q
    cases hf : figsL (l.drop 1) m with
    | none =>
      rw [hf] at q
      refine cnd_t ?_
      walk_at "s"
      exact q
    | some n =>
      rw [hf] at q
      have q : A (.ok (optI (if n = 0 then none else some (-n)))) := q
      refine cnd_f ?_
      rw [show optI (some n) = PyData.int n from rfl]
      walk_at "s"
      refine cnd_d (fun h0 => ?_) (fun h0 => ?_)
      · walk_at "s"
        rw [if_pos h0] at q
        exact q
      · walk_at "s"
        rw [if_neg h0] at q
        exact q
  ) only [↓qt_eq])
/-! ### a fraction -/
noncomputable def bef : List Nat → List Nat
  | [] => []
  | c :: l => if c = 47 then [] else c :: bef l
noncomputable def aft : List Nat → List Nat
  | [] => []
  | c :: l => if c = 47 then l else aft l
theorem bef_no : ∀ l : List Nat, 47 ∉ bef l
  | [], h => by cases h
  | c :: l, h => by
    unfold bef at h
    split at h
    · cases h
    · rcases List.mem_cons.mp h with h | h
      · omega
      · exact bef_no l h
theorem bef_all : ∀ {l : List Nat}, 47 ∉ l → bef l = l
  | [], _ => rfl
  | c :: l, h => by
    unfold bef
    rw [if_neg (fun z => h (by rw [z]; exact List.mem_cons_self)), bef_all fun z => h (List.mem_cons_of_mem _ z)]
theorem bef_aft : ∀ {l : List Nat}, 47 ∈ l → l = bef l ++ 47 :: aft l
  | [], h => by cases h
  | c :: l, h => by
    unfold bef aft
    by_cases e : c = 47
    · rw [if_pos e, if_pos e, e]; rfl
    · rw [if_neg e, if_neg e]
      have h : 47 ∈ l := (List.mem_cons.mp h).resolve_left fun z => e z.symm
      show c :: l = c :: (bef l ++ 47 :: aft l)
      rw [← bef_aft h]
theorem bef_len : ∀ l : List Nat, (bef l).length ≤ l.length
  | [] => Nat.le_refl _
  | c :: l => by
    unfold bef
    have := bef_len l
    split <;> simp <;> omega
theorem aft_len : ∀ l : List Nat, (aft l).length ≤ l.length
  | [] => Nat.le_refl _
  | c :: l => by
    unfold aft
    have := aft_len l
    split <;> simp <;> omega
theorem part_yes {l : List Nat} (h : 47 ∈ l) : Txt.partition (tx l) "/" = (tx (bef l), ("/" : Str), tx (aft l)) := qt_of (by simp (disch := with_unfolding_all
  have e : tx l = tx (bef l) ++ "/" ++ tx (aft l) := by
    rw [tx_stroke, tx_app, tx_app, tx_eq, List.append_assoc]
    exact bef_aft h
  rw [e]
  exact TL.partition_app (s := 47) (S := []) (by rw [tx_stroke]) (bef_no l)
  ) only [↓qt_eq])
theorem part_not {l : List Nat} (h : 47 ∉ l) : Txt.partition (tx l) "/" = (tx l, ("" : Str), ("" : Str)) :=
  TL.partition_none (y := "/") (s := 47) (S := []) (by rw [tx_stroke]) h
noncomputable def lowP (b : Bool) (u v : Int) : Option (Int × Int) := if (b = true ∧ v < 2) ∨ gI u v ≠ 1 then none else some (u, v)
noncomputable def partL (l : List Nat) (m : Int) : Option (Int × Int) :=
  match wholeL (bef l) m, (if 47 ∈ l then figsL (aft l) m else some 1) with
  | some u, some v => lowP (decide (47 ∈ l)) u v
  | _, _ => none
noncomputable def optP : Option (Int × Int) → PyData
  | none => .none
  | some p => fr p
noncomputable def P_partIn : Pr := fun ds A => ∃ (l : List Nat) (m : Int), ds = [.str (tx l), .int m] ∧ l.length ≤ 100000 ∧ m ≤ 640 ∧ A (.ok (optP (partL l m)))
noncomputable def t_part_in (K : Fg) : TS := (tSeq (tAsg (tM1 rPart (tVar 0) (tC (V.str "/"))) (gTup K 3 (gCons (gName 4) (gCons (gName 5) (gCons (gName 6) gNil)))))
  (tSeq (tAsg (tCallN 1 1 (spW0 K P_wholeIn) (fun vs zs => vs ++ zs) E0 (tCons (tVar 4) tNil) (tCons (tVar 1) tNil)) (gName 2))
  (tSeq (tAsg (tIf (tTest (tOp rEq (tVar 5) (tC (V.str "")))) (tC (V.int 1)) (tCall (spW0 K P_figures) [] E0 (tCons (tVar 6) (tCons (tVar 1) tNil)))) (gName 3))
  (tSeq (tIfS (tOr (tTest (tOp rIsNo (tVar 2) (tC V.non))) (tTest (tOp rIsNo (tVar 3) (tC V.non)))) (tRet (tC V.non)) tNext)
  (tSeq (tIfS (tOr (tAnd (tTest (tOp rNe (tVar 5) (tC (V.str "")))) (tTest (tOp rLtI (tVar 3) (tC (V.int 2))))) (tTest (tOp rNe (tCall (spP K P_gcd) [] E0 (tCons (tVar 2) (tCons (tVar 3) tNil))) (tC (V.int 1))))) (tRet (tC V.non)) tNext)
  (tRet (tTup (tCons (tVar 2) (tCons (tVar 3) tNil)))))))))
-- slots of part_in: 0 text, 1 most, 2 above, 3 below, 4 first, 5 stroke, 6 second
theorem ln_part_in : ∀ ds A, P_partIn ds A → ds.length = 2 := fun ds A h => by obtain ⟨_, _, rfl, _⟩ := h; rfl
theorem stroke_no : ¬ ("/" : Str) = "" := by rw [tx_stroke, tx_none, tx_eq]; simp
noncomputable def t_partTail (K : Fg) : TS := (tSeq (tIfS (tOr (tTest (tOp rIsNo (tVar 2) (tC V.non))) (tTest (tOp rIsNo (tVar 3) (tC V.non)))) (tRet (tC V.non)) tNext)
  (tSeq (tIfS (tOr (tAnd (tTest (tOp rNe (tVar 5) (tC (V.str "")))) (tTest (tOp rLtI (tVar 3) (tC (V.int 2))))) (tTest (tOp rNe (tCall (spP K P_gcd) [] E0 (tCons (tVar 2) (tCons (tVar 3) tNil))) (tC (V.int 1))))) (tRet (tC V.non)) tNext)
  (tRet (tTup (tCons (tVar 2) (tCons (tVar 3) tNil))))))
noncomputable def bothP (b : Bool) : Option Int → Option Int → Option (Int × Int)
  | some u, some v => lowP b u v
  | _, _ => none
theorem rd_partTail {x y : Option Int} {st : Str} {b : Bool} {e0 e1 e4 e6 : En} (hb : st = "" ↔ b = false) (q : A (.ok (optP (bothP b x y)))) : SW K cs W0 (t_partTail K) [e0, e1, .d (optI x), .d (optI y), e4, .d (.str st), e6] (rts0 A) := qt_of (by simp (disch := with_unfolding_all
  unfold t_partTail
  refine sw_seq ?_
  cases x with
  | none =>
    walk_at "s"
    refine cnd_t ?_
    walk_at "s"
    exact q
  | some u =>
  rw [show optI (some u) = PyData.int u from rfl]
  walk_at "s"
  refine cnd_f ?_
  cases y with
  | none =>
    walk_at "s"
    refine cnd_t ?_
    walk_at "s"
    exact q
  | some v =>
  rw [show optI (some v) = PyData.int v from rfl]
  have q : A (.ok (optP (if (b = true ∧ v < 2) ∨ gI u v ≠ 1 then none else some (u, v)))) := q
  walk_at "s"
  refine cnd_f ?_
  walk_at "w"
  refine sw_seq ?_
  walk_at "s"
  cases b with
  | false =>
    refine cnd_nd (fun z => absurd (hb.mpr rfl) z) (fun _ => cnd_f ?_)
    walk_at "s"
    refine c_gcd ?_
    walk_at "s"
    refine cnd_nd (fun h1 => ?_) (fun h1 => ?_)
    · walk_at "s"
      rw [if_pos (.inr h1)] at q
      exact q
    · walk_at "s"
      rw [if_neg (fun z => z.elim (fun z => by cases z.1) (fun z => z h1))] at q
      exact q
  | true =>
    refine cnd_nd (fun _ => ?_) (fun z => by have := hb.mp z; cases this)
    walk_at "s"
    refine cnd_d (fun h2 => cnd_t ?_) (fun h2 => ?_)
    · walk_at "s"
      rw [if_pos (.inl ⟨rfl, h2⟩)] at q
      exact q
    walk_at "s"
    refine c_gcd ?_
    walk_at "s"
    refine cnd_nd (fun h1 => ?_) (fun h1 => ?_)
    · walk_at "s"
      rw [if_pos (.inr h1)] at q
      exact q
    · walk_at "s"
      rw [if_neg (fun z => z.elim (fun z => h2 z.2) (fun z => z h1))] at q
      exact q
  ) only [↓qt_eq])
theorem rd_part_in {ds A} (h : P_partIn ds A) : SW K cs W0 (t_part_in K) (frame 7 ds) (rts0 A) := qt_of (by simp (disch := with_unfolding_all
  obtain ⟨l, m, rfl, hl, hm, q⟩ := h
  have hz : (tx l).length ≤ sizeLine := by rw [tx_len]; exact Nat.le_trans hl (by decide)
  have hb := bef_len l
  have ha := aft_len l
  unfold t_part_in
  walk_at "w"
  refine ⟨by rw [tx_stroke]; rfl, hz, ?_⟩
  by_cases h47 : 47 ∈ l
  · rw [part_yes h47]
    have ep : partL l m = bothP true (wholeL (bef l) m) (figsL (aft l) m) := by unfold partL; rw [if_pos h47, decide_eq_true h47]; cases wholeL (bef l) m <;> cases figsL (aft l) m <;> rfl
    walk_at "w"
    refine ⟨rfl, rfl, bef l, m, rfl, by omega, hm, ?_⟩
    walk_at "w"
    refine cnd_no stroke_no ?_
    walk_at "w"
    refine ⟨aft l, m, rfl, by omega, hm, ?_⟩
    walk_at "w"
    rw [ep] at q
    exact rd_partTail ⟨fun z => absurd z stroke_no, fun z => by cases z⟩ q
  · rw [part_not h47]
    have ep : partL l m = bothP false (wholeL l m) (some 1) := by unfold partL; rw [if_neg h47, decide_eq_false h47, bef_all h47]; cases wholeL l m <;> rfl
    walk_at "w"
    refine ⟨rfl, rfl, l, m, rfl, by omega, hm, ?_⟩
    walk_at "w"
    refine cnd_yes rfl ?_
    walk_at "w"
    rw [ep] at q
    exact rd_partTail ⟨fun z => rfl, fun z => rfl⟩ q
  ) only [↓qt_eq])
end


end
section
open PySem PyProof.Rows L2 Evl U.Hull

section
variable {K : Fg} {cs : Cs} {gs : Gs} {φ : PyData → Prop} {A : Rs → Prop} {ε : Xw → Prop} {w : World} {W : WX}
/-! ### read_part, by the program and by the law -/
noncomputable def P_readPart : Pr := fun ds A => ∃ l : List Nat, ds = [.str (tx l)] ∧ l.length ≤ 100000 ∧ (partL l 40 = none → A (.er (xw "BadPart"))) ∧ ∀ p, partL l 40 = some p → A (.ok (fr p))
noncomputable def t_read_part (K : Fg) (cs : Cs) (W : WX) : TS := (tSeq (tAsg (tCall (spW0 K P_partIn) [V.int 40] E0 (tCons (tVar 0) tNil)) (gName 1))
  (tSeq (tIfS (tTest (tOp rIsNo (tVar 1) (tC V.non))) (tRaiseX (cs "BadPart") (spIn K ["word"] (gCw "BadPart")) [] tNil W) tNext)
  (tRet (tVar 1))))
-- slots of read_part: 0 text, 1 found
theorem ln_read_part : ∀ ds A, P_readPart ds A → ds.length = 1 := fun ds A h => by obtain ⟨_, rfl, _⟩ := h; rfl
theorem rd_read_part {ds A} (cf : ClsF K cs "BadPart" ["word"]) (h : P_readPart ds A) (W : WX) : SW K cs W (t_read_part K cs W) (frame 2 ds) (rts A) := qt_of (by simp (disch := with_unfolding_all
  obtain ⟨l, rfl, hl, h1, h2⟩ := h
  unfold t_read_part
  walk_at "w"
  refine ew_call0 (des := [.int 40]) (fun _ => .cons (.int 40) .nil) ?_
  walk_at "w"
  refine ⟨l, 40, rfl, hl, by decide, ?_⟩
  walk_at "w"
  refine sw_seq ?_
  cases hp : partL l 40 with
  | none =>
    walk_at "s"
    refine cnd_t ?_
    refine sw_raise0 cf rfl ?_
    exact h1 hp
  | some p =>
    walk_at "s"
    refine cnd_f ?_
    walk_at "w"
    exact h2 p hp
  ) only [↓qt_eq])
noncomputable def toldP : Option (Int × Int) → PyData
  | none => .list [.str "BadPart"]
  | some p => fr p
noncomputable def P_lread : Pr := fun ds A => ∃ l : List Nat, ds = [.str (tx l)] ∧ l.length ≤ 100000 ∧ A (.ok (toldP (partL l 40)))
noncomputable def t__law_read (K : Fg) (cs : Cs) : TS := (tTryAs K (.ref (cs "BadPart")) 1 (fun W => (tRet (tCallSD (spW K cs P_readPart) [] (WE W) (tCons (tVar 0) tNil)))) (fun a cls d => (tSeq (tIfS (tOr (tB (tCB (rIsD K a cls d (cs "BadPart")) (tCons (tVar 1) (tCons (tC (V.ref (cs "BadSpot"))) tNil)))) (tOr (tNot (tB (tCB (rIsD K a cls d (cs "BadPart")) (tCons (tVar 1) (tCons (tC (V.ref (cs "Unfit"))) tNil))))) (tNot (tB (tCB (rIsDT K a cls d (cs "BadPart") "ValueError") (tCons (tVar 1) (tCons (tC (V.ty "ValueError")) tNil))))))) (tRet (tC V.non)) tNext)
  (tRet (tLst (tCons (tXf a cls d (cs "BadPart") "word" (tVar 1)) tNil))))))
-- slots of _law_read: 0 _law_text, 1 why
theorem ln__law_read : ∀ ds A, P_lread ds A → ds.length = 1 := fun ds A h => by obtain ⟨_, rfl, _⟩ := h; rfl
theorem rd__law_read {ds A} (em : PySem.W.exmOne K (.ref (cs "BadPart")) (.ref (cs "BadPart")) = some true) (k1 : PySem.W.kitOne K (.ref (cs "BadPart")) (.ref (cs "BadSpot")) = some false) (k2 : PySem.W.kitOne K (.ref (cs "BadPart")) (.ref (cs "Unfit")) = some true) (k3 : PySem.W.kitOne K (.ref (cs "BadPart")) (.type "ValueError") = some true) (h : P_lread ds A) : SW K cs W0 (t__law_read K cs) (frame 2 ds) (rts0 A) := qt_of (by simp (disch := with_unfolding_all
  obtain ⟨l, rfl, hl, q⟩ := h
  unfold t__law_read
  refine sw_try fun W' => ?_
  walk_at "w"
  refine ⟨l, rfl, hl, fun e => ?_, fun p e => ?_⟩
  · rw [e] at q
    refine ⟨em, fun a d => ?_⟩
    refine sw_seq ?_
    walk_at "s"
    refine ew_isD rfl k1 ?_
    walk_at "s"
    refine ew_isD rfl k2 ?_
    walk_at "s"
    refine ew_isDT rfl k3 ?_
    walk_at "w"
    refine ew_xfS rfl rfl ?_
    exact q
  · rw [e] at q
    exact q
  ) only [↓qt_eq])
end


end
section
open PySem PyProof.Rows L2 Evl U.Hull

section
variable {K : Fg} {cs : Cs} {gs : Gs} {φ : PyData → Prop} {A : Rs → Prop} {ε : Xw → Prop} {w : World} {W : WX}
/-! ### the first stroke, how many there are -/
theorem at_47 (l : List Nat) (i : Nat) : StrLaws.At (tx l) (tx [47]) (tx l).length i ↔ l[i]? = some 47 := qt_of (by simp (disch := with_unfolding_all
  rw [TL.at_iff (by simp)]
  show ((l.drop i).take 1 == [47]) = true ↔ _
  rw [beq_iff_eq]
  rcases hd : l.drop i with _ | ⟨a, t⟩
  · have : l.length ≤ i := List.drop_eq_nil_iff.mp hd
    rw [List.getElem?_eq_none this]
    simp
  · have : l[i]? = some a := by
      have := congrArg List.head? hd
      rw [List.head?_drop] at this
      exact this
    rw [this]
    simp
  ) only [↓qt_eq])
theorem bef_at : ∀ {l : List Nat}, 47 ∈ l → l[(bef l).length]? = some 47 ∧ ∀ k, k < (bef l).length → l[k]? ≠ some 47
  | [], h => by cases h
  | c :: l, h => by
    unfold bef
    by_cases e : c = 47
    · rw [if_pos e, e]
      exact ⟨rfl, fun k hk => absurd hk (Nat.not_lt_zero _)⟩
    · rw [if_neg e]
      have h : 47 ∈ l := (List.mem_cons.mp h).resolve_left fun z => e z.symm
      obtain ⟨i1, i2⟩ := bef_at h
      refine ⟨by simpa using i1, fun k hk => ?_⟩
      cases k with
      | zero => simpa using e
      | succ k => simpa using i2 k (by simpa using hk)
theorem find_47 (l : List Nat) : Txt.find (tx l) "/" = if 47 ∈ l then ((bef l).length : Int) else -1 := qt_of (by simp (disch := with_unfolding_all
  rw [tx_stroke]
  rcases find_whole (tx l) (tx [47]) with ⟨e, h⟩ | ⟨i, e, h1, h2⟩
  · rw [e, if_neg fun z => ?_]
    exact h _ ((at_47 l _).mpr (bef_at z).1)
  · rw [e]
    have a := (at_47 l i).mp h1
    have m : 47 ∈ l := List.mem_of_getElem? a
    rw [if_pos m]
    obtain ⟨b1, b2⟩ := bef_at m
    have : i = (bef l).length := by
      rcases Nat.lt_trichotomy i (bef l).length with z | z | z
      · exact absurd a (b2 i z)
      · exact z
      · exact absurd ((at_47 l _).mpr b1) (h2 _ z)
    rw [this]
  ) only [↓qt_eq])
theorem count_47 {l : List Nat} (h : 1 < Txt.count (tx l) "/") : 47 ∈ l ∧ 47 ∈ aft l := qt_of (by simp (disch := with_unfolding_all
  rw [tx_stroke, show (tx [47]) = (⟨#[47]⟩ : Str) from rfl, count_cnt] at h
  have h : 1 < cnt 47 l := h
  have no : ∀ {l : List Nat}, 47 ∉ l → cnt 47 l = 0 := fun {l} => by
    induction l with
    | nil => intro _; rfl
    | cons a l ih =>
      intro h
      rw [cnt_cons, ih fun z => h (List.mem_cons_of_mem _ z), if_neg fun z => h (by rw [z]; exact List.mem_cons_self)]
      rfl
  have m : 47 ∈ l := Classical.byContradiction fun z => by rw [no z] at h; omega
  refine ⟨m, Classical.byContradiction fun z => ?_⟩
  rw [bef_aft m, cnt_append, cnt_cons, no (bef_no l), no z] at h
  simp at h
  ) only [↓qt_eq])
theorem part_two {l : List Nat} (h : 1 < Txt.count (tx l) "/") (m : Int) : partL l m = none := qt_of (by simp (disch := with_unfolding_all
  obtain ⟨h1, h2⟩ := count_47 h
  unfold partL
  rw [if_pos h1]
  have : figsL (aft l) m = none := if_neg fun z => by
    have := List.all_eq_true.mp z.2.2.1 _ h2
    revert this
    decide
  rw [this]
  cases wholeL (bef l) m <;> rfl
  ) only [↓qt_eq])
theorem bef_take : ∀ l : List Nat, bef l = l.take (bef l).length
  | [] => rfl
  | c :: l => by
    unfold bef
    split
    · rfl
    · rw [List.length_cons, List.take_succ_cons, ← bef_take l]
theorem aft_drop {l : List Nat} (h : 47 ∈ l) : aft l = l.drop ((bef l).length + 1) := by
  have e := bef_aft h
  have : l.drop ((bef l).length + 1) = (bef l ++ 47 :: aft l).drop ((bef l).length + 1) := by rw [← e]
  rw [this, List.drop_append]
  simp
/-! ### by the law -/
noncomputable def P_lcount : Pr := fun ds A => ∃ l : List Nat, ds = [.str (tx l)] ∧ l.length ≤ 100000 ∧ A (.ok (optI (figsL l 40)))
noncomputable def t__law_count (K : Fg) : TS := (tSeq (tIfS (tOr (tNot (tTest (tChain rLeI rLeI (tC (V.int 1)) (tCB rLenS (tCons (tVar 0) tNil)) (tC (V.int 40))))) (tNot (tB (tCB (rAll K) (tCons (tLc (iStr (tVar 0)) (gName 1) tYes (tOp rInSg (tVar 1) (tC (V.str "0123456789"))) [1]) tNil))))) (tRet (tC V.non)) tNext)
  (tRet (tIf (tAnd (tTest (tOp rEq (tOp rIxS (tVar 0) (tC (V.int 0))) (tC (V.str "0")))) (tTest (tOp rGtI (tCB rLenS (tCons (tVar 0) tNil)) (tC (V.int 1))))) (tC V.non) (tCB rIntS (tCons (tVar 0) tNil)))))
-- slots of _law_count: 0 _law_text, 1 _law_sign
theorem ln__law_count : ∀ ds A, P_lcount ds A → ds.length = 1 := fun ds A h => by obtain ⟨_, rfl, _⟩ := h; rfl
theorem rd__law_count {ds A} (h : P_lcount ds A) : SW K cs W0 (t__law_count K) (frame 2 ds) (rts0 A) := qt_of (by simp (disch := with_unfolding_all
  obtain ⟨l, rfl, hl, q⟩ := h
  have hz : (tx l).length ≤ sizeLine := by rw [tx_len]; exact Nat.le_trans hl (by decide)
  have none_ : figsL l 40 = none → A (.ok .none) := fun e => by rw [e] at q; exact q
  unfold t__law_count
  refine sw_seq ?_
  walk_at "s"
  refine ⟨tx l, rfl, hz, ?_⟩
  rw [tx_len]
  walk_at "s"
  refine cnd_d (fun h1 => ?_) (fun h1 => ?_)
  rotate_left
  · refine ⟨_, rfl, cnd_nf (cnd_t ?_)⟩
    walk_at "s"
    exact none_ (if_neg fun z => h1 (by have := z.1; omega))
  walk_at "s"
  refine cnd_nd (fun h2 => cnd_t ?_) (fun h2 => ?_)
  · walk_at "s"
    exact none_ (if_neg fun z => h2 z.2.1)
  walk_at "s"
  refine lcM (f := sg) (fun c => .bool (dgt c)) (by show l.length ≤ _; omega) (unk1 rfl) (fun c _ => ?_) ?_
  · walk_at "s"
    refine ⟨c, rfl, ?_⟩
    walk_at "s"
    rw [in_ten]
  walk_at "s"
  cases hA : l.all dgt with
  | false =>
    refine cnd_T rfl ?_
    walk_at "s"
    exact none_ (if_neg fun z => by rw [hA] at z; simp at z)
  | true =>
  refine cnd_F rfl ?_
  walk_at "s"
  obtain ⟨c, c1, c2⟩ := atI_zero (l := l) (by omega)
  walk_at "s"
  refine ⟨hz, ?_⟩
  walk_at "s"
  refine ⟨0, c, rfl, c1, ?_⟩
  walk_at "s"
  have fin : ¬ (c = 48 ∧ 1 < l.length) → ∃ z n, [PyData.str (tx l)] = [PyData.str z] ∧ intText? z = some n ∧ z.length ≤ 640 ∧ rts0 A (Out.rt (PyData.int n)) := fun hn => by
    refine ⟨tx l, _, rfl, intText_of (by omega) (by omega) hA, by rw [tx_len]; omega, ?_⟩
    have e : figsL l 40 = some ((NumText.digitsVal l : Nat) : Int) := if_pos ⟨by omega, h2, hA, fun z => hn ⟨by have := c2.symm.trans z.1; cases this; rfl, z.2⟩⟩
    rw [e] at q
    exact q
  refine cnd_d (fun h3 => ?_) (fun h3 => cnd_f ?_)
  · walk_at "s"
    refine ⟨tx l, rfl, hz, ?_⟩
    rw [tx_len]
    walk_at "s"
    refine cnd_d (fun h4 => ?_) (fun h4 => ?_)
    · walk_at "s"
      exact none_ (if_neg fun z => z.2.2.2 ⟨by rw [c2, (one_zero c).mp h3], by omega⟩)
    · walk_at "w"
      exact fin fun z => h4 (by omega)
  · walk_at "w"
    exact fin fun z => h3 ((one_zero c).mpr z.1)
  ) only [↓qt_eq])
end


end
section
open PySem PyProof.Rows L2 Evl U.Hull

section
variable {K : Fg} {cs : Cs} {gs : Gs} {φ : PyData → Prop} {A : Rs → Prop} {ε : Xw → Prop} {w : World} {W : WX}
/-! ### what is due by the law -/
noncomputable def P_ldue : Pr := fun ds A => ∃ l : List Nat, ds = [.str (tx l)] ∧ l.length ≤ 100000 ∧ A (.ok (toldP (partL l 40)))
noncomputable def t__law_due (K : Fg) : TS := (tSeq (tIfS (tTest (tOp rGtI (tM1 rCount (tVar 0) (tC (V.str "/"))) (tC (V.int 1)))) (tRet (tLst (tCons (tC (V.str "BadPart")) tNil))) tNext)
  (tSeq (tAsg (tM1 rFind (tVar 0) (tC (V.str "/"))) (gName 1))
  (tSeq (tAsg (tIf (tTest (tOp rLtI (tVar 1) (tC (V.int 0)))) (tVar 0) (tSl rSlS (tVar 0) tNoPart (tPart (tVar 1)))) (gName 2))
  (tSeq (tAsg (tIf (tTest (tOp rLtI (tVar 1) (tC (V.int 0)))) (tC (V.int 1)) (tCall (spW0 K P_lcount) [] E0 (tCons (tSl rSlS (tVar 0) (tPart (tOp rAddI (tVar 1) (tC (V.int 1)))) tNoPart) tNil))) (gName 3))
  (tSeq (tAsg (tOp rEq (tSl rSlS (tVar 2) tNoPart (tPart (tC (V.int 1)))) (tC (V.str "-"))) (gName 4))
  (tSeq (tAsg (tCall (spW0 K P_lcount) [] E0 (tCons (tIf (tB (tVar 4)) (tSl rSlS (tVar 2) (tPart (tC (V.int 1))) tNoPart) (tVar 2)) tNil)) (gName 5))
  (tSeq (tIfS (tOr (tTest (tOp rIsNo (tVar 5) (tC V.non))) (tOr (tTest (tOp rIsNo (tVar 3) (tC V.non))) (tAnd (tB (tVar 4)) (tTest (tOp rEq (tVar 5) (tC (V.int 0))))))) (tRet (tLst (tCons (tC (V.str "BadPart")) tNil))) tNext)
  (tSeq (tIfS (tOr (tAnd (tTest (tOp rGeI (tVar 1) (tC (V.int 0)))) (tTest (tOp rLtI (tVar 3) (tC (V.int 2))))) (tTest (tOp rGtI (tCall (spP K P_gcd) [] E0 (tCons (tVar 5) (tCons (tVar 3) tNil))) (tC (V.int 1))))) (tRet (tLst (tCons (tC (V.str "BadPart")) tNil))) tNext)
  (tRet (tTup (tCons (tIf (tB (tVar 4)) (tUn rNegI (tVar 5)) (tVar 5)) (tCons (tVar 3) tNil))))))))))))
-- slots of _law_due: 0 _law_text, 1 _law_at, 2 _law_first, 3 _law_below, 4 _law_signed, 5 _law_above
theorem ln__law_due : ∀ ds A, P_ldue ds A → ds.length = 1 := fun ds A h => by obtain ⟨_, rfl, _⟩ := h; rfl
noncomputable def t_dueTail (K : Fg) : TS := (tSeq (tAsg (tOp rEq (tSl rSlS (tVar 2) tNoPart (tPart (tC (V.int 1)))) (tC (V.str "-"))) (gName 4))
  (tSeq (tAsg (tCall (spW0 K P_lcount) [] E0 (tCons (tIf (tB (tVar 4)) (tSl rSlS (tVar 2) (tPart (tC (V.int 1))) tNoPart) (tVar 2)) tNil)) (gName 5))
  (tSeq (tIfS (tOr (tTest (tOp rIsNo (tVar 5) (tC V.non))) (tOr (tTest (tOp rIsNo (tVar 3) (tC V.non))) (tAnd (tB (tVar 4)) (tTest (tOp rEq (tVar 5) (tC (V.int 0))))))) (tRet (tLst (tCons (tC (V.str "BadPart")) tNil))) tNext)
  (tSeq (tIfS (tOr (tAnd (tTest (tOp rGeI (tVar 1) (tC (V.int 0)))) (tTest (tOp rLtI (tVar 3) (tC (V.int 2))))) (tTest (tOp rGtI (tCall (spP K P_gcd) [] E0 (tCons (tVar 5) (tCons (tVar 3) tNil))) (tC (V.int 1))))) (tRet (tLst (tCons (tC (V.str "BadPart")) tNil))) tNext)
  (tRet (tTup (tCons (tIf (tB (tVar 4)) (tUn rNegI (tVar 5)) (tVar 5)) (tCons (tVar 3) tNil))))))))
theorem gI_sgn (u v : Int) : gI (-u) v = gI u v := by unfold gI gN; rw [Int.natAbs_neg]
/-- what is made of the figures and the sign -/
noncomputable def sgnI (b : Bool) : Option Int → Option Int := fun x => if b = true then negW x else x
theorem whole_sgn (f : List Nat) (m : Int) : wholeL f m = sgnI (decide (f.head? = some 45)) (figsL (if f.head? = some 45 then f.drop 1 else f) m) := by
  unfold wholeL sgnI
  by_cases h : f.head? = some 45
  · rw [if_pos h, if_pos h, if_pos (decide_eq_true h)]
  · rw [if_neg h, if_neg h, decide_eq_false h, if_neg (by decide)]
theorem rd_dueTail2 {x y : Option Int} {a : Int} {b s : Bool} {e0 e2 : En} (hb : 0 ≤ a ↔ b = true) (q : A (.ok (toldP (bothP b (sgnI s x) y)))) :
    SW K cs W0 (tSeq (tIfS (tOr (tTest (tOp rIsNo (tVar 5) (tC V.non))) (tOr (tTest (tOp rIsNo (tVar 3) (tC V.non))) (tAnd (tB (tVar 4)) (tTest (tOp rEq (tVar 5) (tC (V.int 0))))))) (tRet (tLst (tCons (tC (V.str "BadPart")) tNil))) tNext)
  (tSeq (tIfS (tOr (tAnd (tTest (tOp rGeI (tVar 1) (tC (V.int 0)))) (tTest (tOp rLtI (tVar 3) (tC (V.int 2))))) (tTest (tOp rGtI (tCall (spP K P_gcd) [] E0 (tCons (tVar 5) (tCons (tVar 3) tNil))) (tC (V.int 1))))) (tRet (tLst (tCons (tC (V.str "BadPart")) tNil))) tNext)
  (tRet (tTup (tCons (tIf (tB (tVar 4)) (tUn rNegI (tVar 5)) (tVar 5)) (tCons (tVar 3) tNil)))))) [e0, .d (.int a), e2, .d (optI y), .d (.bool s), .d (optI x)] (rts0 A) := qt_of (by simp (disch := with_unfolding_all
  have bad : bothP b (sgnI s x) y = none → A (.ok (.list [.str "BadPart"])) := fun e => by rw [e] at q; exact q
  refine sw_seq ?_
  cases x with
  | none =>
    walk_at "s"
    refine cnd_t ?_
    walk_at "s"
    exact bad (by cases s <;> cases y <;> rfl)
  | some n =>
  rw [show optI (some n) = PyData.int n from rfl]
  walk_at "s"
  refine cnd_f ?_
  cases y with
  | none =>
    walk_at "s"
    refine cnd_t ?_
    walk_at "s"
    exact bad (by unfold sgnI negW; cases s <;> simp [bothP] <;> split <;> rfl)
  | some v =>
  rw [show optI (some v) = PyData.int v from rfl]
  walk_at "s"
  refine cnd_f ?_
  -- the sign, and the rest
  have rest : ∀ u : Int, (s = true → u = -n ∧ n ≠ 0) → (s = false → u = n) → sgnI s (some n) = some u := fun u h1 h2 => by
    cases s with
    | true =>
      show (if n = 0 then none else some (-n)) = some u
      rw [if_neg (h1 rfl).2, (h1 rfl).1]
    | false =>
      show some n = some u
      rw [h2 rfl]
  have fin : ∀ u : Int, sgnI s (some n) = some u → gI u v = gI n v → (u = if s = true then -n else n) → SW K cs W0 (tSeq (tIfS (tOr (tAnd (tTest (tOp rGeI (tVar 1) (tC (V.int 0)))) (tTest (tOp rLtI (tVar 3) (tC (V.int 2))))) (tTest (tOp rGtI (tCall (spP K P_gcd) [] E0 (tCons (tVar 5) (tCons (tVar 3) tNil))) (tC (V.int 1))))) (tRet (tLst (tCons (tC (V.str "BadPart")) tNil))) tNext)
  (tRet (tTup (tCons (tIf (tB (tVar 4)) (tUn rNegI (tVar 5)) (tVar 5)) (tCons (tVar 3) tNil))))) [e0, .d (.int a), e2, .d (.int v), .d (.bool s), .d (.int n)] (rts0 A) := fun u eu eg es => by
    have q : A (.ok (toldP (if (b = true ∧ v < 2) ∨ gI u v ≠ 1 then none else some (u, v)))) := by rw [eu] at q; exact q
    have gp := gI_pos n v
    have good : ¬ (b = true ∧ v < 2) → ¬ 1 < gI n v → A (.ok (fr (u, v))) := fun h1 h2 => by
      rw [if_neg (fun z => z.elim h1 (fun z => z (by rw [eg]; omega)))] at q
      exact q
    have bad1 : (b = true ∧ v < 2) → A (.ok (.list [.str "BadPart"])) := fun h => by rw [if_pos (.inl h)] at q; exact q
    have bad2 : 1 < gI n v → A (.ok (.list [.str "BadPart"])) := fun h => by rw [if_pos (.inr (by rw [eg]; omega))] at q; exact q
    refine sw_seq ?_
    walk_at "s"
    refine cnd_d (fun h1 => ?_) (fun h1 => ?_)
    · walk_at "s"
      refine cnd_d (fun h2 => cnd_t ?_) (fun h2 => ?_)
      · walk_at "s"
        exact bad1 ⟨hb.mp h1, h2⟩
      · have hh : ¬ (b = true ∧ v < 2) := fun z => h2 z.2
        walk_at "s"
        refine c_gcd ?_
        walk_at "s"
        refine cnd_d (fun h3 => ?_) (fun h3 => ?_)
        · walk_at "s"
          exact bad2 h3
        · have qg := good hh h3
          walk_at "w"
          cases s with
          | true =>
            refine cnd_t ?_
            walk_at "s"
            rw [show -n = u by rw [es]; rfl]
            exact qg
          | false =>
            refine cnd_f ?_
            walk_at "s"
            rw [show n = u by rw [es]; rfl]
            exact qg
    · have hh : ¬ (b = true ∧ v < 2) := fun z => h1 (hb.mpr z.1)
      walk_at "s"
      refine c_gcd ?_
      walk_at "s"
      refine cnd_d (fun h3 => ?_) (fun h3 => ?_)
      · walk_at "s"
        exact bad2 h3
      · have qg := good hh h3
        walk_at "w"
        cases s with
        | true =>
          refine cnd_t ?_
          walk_at "s"
          rw [show -n = u by rw [es]; rfl]
          exact qg
        | false =>
          refine cnd_f ?_
          walk_at "s"
          rw [show n = u by rw [es]; rfl]
          exact qg
  cases s with
  | false =>
    walk_at "s"
    exact fin n (rest n (fun z => by cases z) fun _ => rfl) rfl rfl
  | true =>
    walk_at "s"
    refine cnd_d (fun h0 => ?_) (fun h0 => ?_)
    · walk_at "s"
      refine bad ?_
      unfold sgnI negW
      rw [if_pos rfl]
      show bothP b (if n = 0 then none else some (-n)) (some v) = none
      rw [if_pos h0]
      rfl
    · walk_at "w"
      exact fin (-n) (rest (-n) (fun _ => ⟨rfl, h0⟩) fun z => by cases z) (gI_sgn n v) rfl
  ) only [↓qt_eq])
theorem rd_dueTail {f : List Nat} {y : Option Int} {a : Int} {b : Bool} {e0 : En} (hf : f.length ≤ 100000) (hb : 0 ≤ a ↔ b = true) (q : A (.ok (toldP (bothP b (wholeL f 40) y)))) :
    SW K cs W0 (t_dueTail K) [e0, .d (.int a), .d (.str (tx f)), .d (optI y), .un, .un] (rts0 A) := qt_of (by simp (disch := with_unfolding_all
  have hz : (tx f).length ≤ sizeLine := by rw [tx_len]; exact Nat.le_trans hf (by decide)
  rw [whole_sgn] at q
  unfold t_dueTail
  walk_at "w"
  refine ⟨hz, ?_⟩
  walk_at "w"
  rw [cut_hd]
  have e45 : decide (tx (f.take 1) = ("-" : Str)) = decide (f.head? = some 45) := by
    by_cases h : f.head? = some 45
    · rw [decide_eq_true h, decide_eq_true ((hd_minus f).mpr h)]
    · rw [decide_eq_false h, decide_eq_false fun z => h ((hd_minus f).mp z)]
  rw [e45]
  by_cases h : f.head? = some 45
  · rw [decide_eq_true h, if_pos h] at q
    rw [decide_eq_true h]
    refine cnd_t ?_
    walk_at "w"
    refine ⟨hz, ?_⟩
    walk_at "w"
    rw [cut_tl]
    refine ⟨f.drop 1, rfl, by rw [List.length_drop]; omega, ?_⟩
    walk_at "w"
    exact rd_dueTail2 hb q
  · rw [decide_eq_false h, if_neg h] at q
    rw [decide_eq_false h]
    refine cnd_f ?_
    walk_at "w"
    refine ⟨f, rfl, hf, ?_⟩
    walk_at "w"
    exact rd_dueTail2 hb q
  ) only [↓qt_eq])
theorem rd__law_due {ds A} (h : P_ldue ds A) : SW K cs W0 (t__law_due K) (frame 6 ds) (rts0 A) := qt_of (by simp (disch := with_unfolding_all
  obtain ⟨l, rfl, hl, q⟩ := h
  have hz : (tx l).length ≤ sizeLine := by rw [tx_len]; exact Nat.le_trans hl (by decide)
  have hb := bef_len l
  have ha := aft_len l
  show SW K cs W0 (tSeq (tIfS (tTest (tOp rGtI (tM1 rCount (tVar 0) (tC (V.str "/"))) (tC (V.int 1)))) (tRet (tLst (tCons (tC (V.str "BadPart")) tNil))) tNext)
  (tSeq (tAsg (tM1 rFind (tVar 0) (tC (V.str "/"))) (gName 1))
  (tSeq (tAsg (tIf (tTest (tOp rLtI (tVar 1) (tC (V.int 0)))) (tVar 0) (tSl rSlS (tVar 0) tNoPart (tPart (tVar 1)))) (gName 2))
  (tSeq (tAsg (tIf (tTest (tOp rLtI (tVar 1) (tC (V.int 0)))) (tC (V.int 1)) (tCall (spW0 K P_lcount) [] E0 (tCons (tSl rSlS (tVar 0) (tPart (tOp rAddI (tVar 1) (tC (V.int 1)))) tNoPart) tNil))) (gName 3))
  (t_dueTail K))))) _ _
  refine sw_seq ?_
  walk_at "s"
  refine cnd_d (fun h1 => ?_) (fun h1 => ?_)
  · walk_at "s"
    rw [part_two h1] at q
    exact q
  walk_at "w"
  rw [find_47]
  by_cases h47 : 47 ∈ l
  · have ep : partL l 40 = bothP true (wholeL (bef l) 40) (figsL (aft l) 40) := by unfold partL; rw [if_pos h47, decide_eq_true h47]; cases wholeL (bef l) 40 <;> cases figsL (aft l) 40 <;> rfl
    rw [ep] at q
    rw [if_pos h47]
    refine cnd_no (by omega) ?_
    walk_at "w"
    refine ⟨hz, ?_⟩
    walk_at "w"
    rw [cut_to hb, ← bef_take]
    refine cnd_no (by omega) ?_
    walk_at "w"
    refine ⟨hz, ?_⟩
    walk_at "w"
    have e1 : ((bef l).length : Int) + 1 = (((bef l).length + 1 : Nat) : Int) := by omega
    have l1 : (bef l).length + 1 ≤ l.length := by
      have := congrArg List.length (bef_aft h47)
      rw [List.length_append, List.length_cons] at this
      omega
    rw [e1, cut_from l1, ← aft_drop h47]
    refine ⟨aft l, rfl, by omega, ?_⟩
    walk_at "w"
    exact rd_dueTail (a := ((bef l).length : Int)) (b := true) (by omega) ⟨fun _ => rfl, fun _ => by omega⟩ q
  · have ep : partL l 40 = bothP false (wholeL l 40) (some 1) := by unfold partL; rw [if_neg h47, decide_eq_false h47, bef_all h47]; cases wholeL l 40 <;> rfl
    rw [ep] at q
    rw [if_neg h47]
    refine cnd_yes (by decide) ?_
    walk_at "w"
    refine cnd_yes (by decide) ?_
    walk_at "w"
    exact rd_dueTail (a := -1) (b := false) hl ⟨fun z => by omega, fun z => by cases z⟩ q
  ) only [↓qt_eq])
end


end
section
open PySem PyProof.Rows L2 Evl U.Hull

section
variable {K : Fg} {cs : Cs} {gs : Gs} {φ : PyData → Prop} {A : Rs → Prop} {ε : Xw → Prop} {w : World} {W : WX}
/-! ### how a fraction is written -/
noncomputable def intL (i : Int) : List Nat := if i < 0 then 45 :: TL.numL i.natAbs else TL.numL i.natAbs
theorem str_int (i : Int) : Str.ofString (toString i) = tx (intL i) := qt_of (by simp (disch := with_unfolding_all
  refine TL.ext_tl ?_
  show _ = intL i
  unfold intL
  by_cases h : i < 0
  · rw [if_pos h]
    obtain ⟨n, rfl⟩ : ∃ n : Nat, i = -((n + 1 : Nat) : Int) := ⟨i.natAbs - 1, by omega⟩
    rw [TL.tl_ofString]
    have e : toString (-((n + 1 : Nat) : Int)) = "-" ++ toString ((n + 1 : Nat) : Int) := rfl
    rw [e, String.toList_append, List.map_append]
    have e2 := TL.tl_num (n + 1)
    rw [TL.tl_ofString] at e2
    rw [e2, Int.natAbs_neg, Int.natAbs_natCast]
    rfl
  · rw [if_neg h]
    have e2 := TL.tl_num i.natAbs
    rw [show ((i.natAbs : Nat) : Int) = i by omega] at e2
    exact e2
  ) only [↓qt_eq])
theorem num_all (n : Nat) : (TL.numL n).all dgt = true := List.all_eq_true.mpr fun c hc => decide_eq_true (TL.numL_digits n c hc)
theorem num_hd : ∀ {n : Nat}, (TL.numL n).head? = some 48 → n = 0 := fun {n} => by
  induction n using Nat.strongRecOn with
  | _ n ih =>
    intro h
    by_cases l : n < 10
    · rw [TL.numL_lt l] at h
      have : 48 + n = 48 := by simpa using h
      omega
    · rw [TL.numL_step (by omega)] at h
      have ne := TL.numL_ne (n / 10)
      have : (TL.numL (n / 10)).head? = some 48 := by
        cases hn : TL.numL (n / 10) with
        | nil => exact absurd hn ne
        | cons a t => rw [hn] at h; exact h
      have := ih (n / 10) (by omega) this
      omega
theorem figs_num {n : Nat} (h : n < 10 ^ 40) : figsL (TL.numL n) 40 = some (n : Int) := qt_of (by simp (disch := with_unfolding_all
  have l1 := TL.numL_len (k := 40) (by decide) h
  have l2 : 1 ≤ (TL.numL n).length := List.length_pos_iff.mpr (TL.numL_ne n)
  have nz : ¬ ((TL.numL n).head? = some 48 ∧ 1 < (TL.numL n).length) := fun z => by
    have e := num_hd z.1
    have l0 : (TL.numL 0).length = 1 := by rw [TL.numL_lt (by decide)] <;> rfl
    have := z.2
    rw [e] at this
    omega
  unfold figsL
  rw [if_pos ⟨l2, by omega, num_all n, nz⟩, TL.numL_val]
  ) only [↓qt_eq])
theorem whole_int {i : Int} (h : i.natAbs < 10 ^ 40) : wholeL (intL i) 40 = some i := qt_of (by simp (disch := with_unfolding_all
  unfold wholeL intL
  by_cases n : i < 0
  · rw [if_pos n, if_pos (show (45 :: TL.numL i.natAbs).head? = some 45 from rfl)]
    show negW (figsL (TL.numL i.natAbs) 40) = some i
    rw [figs_num h]
    show (if ((i.natAbs : Nat) : Int) = 0 then none else some (-((i.natAbs : Nat) : Int))) = some i
    rw [if_neg (by omega), show -((i.natAbs : Nat) : Int) = i by omega]
  · rw [if_neg n, if_neg (fun z => ?_), figs_num h, show ((i.natAbs : Nat) : Int) = i by omega]
    have := TL.numL_digits i.natAbs 45 (List.mem_of_mem_head? z)
    omega
  ) only [↓qt_eq])
theorem int_free (i : Int) : 47 ∉ intL i := fun h => by
  unfold intL at h
  split at h
  · rcases List.mem_cons.mp h with h | h
    · omega
    · exact TL.numL_free (by omega) h
  · exact TL.numL_free (by omega) h
theorem bef_app : ∀ {l m : List Nat}, 47 ∉ l → bef (l ++ 47 :: m) = l ∧ aft (l ++ 47 :: m) = m
  | [], m, _ => ⟨rfl, rfl⟩
  | c :: l, m, h => by
    have hc : ¬ c = 47 := fun z => h (by rw [z]; exact List.mem_cons_self)
    obtain ⟨i1, i2⟩ := bef_app (l := l) (m := m) fun z => h (List.mem_cons_of_mem _ z)
    constructor
    · show (if c = 47 then [] else c :: bef (l ++ 47 :: m)) = _
      rw [if_neg hc, i1]
    · show (if c = 47 then _ else aft (l ++ 47 :: m)) = _
      rw [if_neg hc, i2]
noncomputable def partT (p : Fr) : List Nat := if p.2 = 1 then intL p.1 else intL p.1 ++ 47 :: intL p.2
theorem part_back {n : Nat} {p : Fr} (h : Gd n p) (h1 : p.1.natAbs < 10 ^ 40) (h2 : p.2.natAbs < 10 ^ 40) : partL (partT p) 40 = some p := qt_of (by simp (disch := with_unfolding_all
  have hp := h.pos
  have hl := h.low
  have fin : ∀ b : Bool, (b = true → 2 ≤ p.2) → lowP b p.1 p.2 = some p := fun b hb => by
    unfold lowP
    rw [if_neg (fun z => z.elim (fun z => by have := hb z.1; omega) (fun z => z hl))]
  unfold partL partT
  by_cases e : p.2 = 1
  · rw [if_pos e, bef_all (int_free p.1), if_neg (int_free p.1), whole_int h1, decide_eq_false (int_free p.1), ← e]
    exact fin false fun z => by cases z
  · have m : 47 ∈ intL p.1 ++ 47 :: intL p.2 := List.mem_append_right _ List.mem_cons_self
    obtain ⟨a1, a2⟩ := bef_app (m := intL p.2) (int_free p.1)
    rw [if_neg e, a1, a2, if_pos m, whole_int h1, decide_eq_true m]
    have : figsL (intL p.2) 40 = some p.2 := by
      have f := figs_num h2
      unfold intL
      rw [if_neg (by omega), f, show ((p.2.natAbs : Nat) : Int) = p.2 by omega]
    rw [this]
    exact fin true fun _ => by omega
  ) only [↓qt_eq])
theorem intL_len {i : Int} (h : i.natAbs < 10 ^ 700) : (intL i).length ≤ 701 := by
  have := TL.numL_len (k := 700) (by decide) h
  unfold intL
  split
  · rw [List.length_cons]; omega
  · omega
theorem log_small {i : Int} (h : i.natAbs < 10 ^ 500) : i.natAbs.log2 < 1920 := by
  by_cases z : i.natAbs = 0
  · rw [z]; decide
  · rw [Nat.log2_lt z]
    exact Nat.lt_trans h (by decide +kernel)
noncomputable def P_partText : Pr := fun ds A => ∃ p : Fr, ds = [fr p] ∧ p.1.natAbs < 10 ^ 500 ∧ p.2.natAbs < 10 ^ 500 ∧ A (.ok (.str (tx (partT p))))
noncomputable def t_part_text (K : Fg) : TS := (tRet (tIf (tTest (tOp rEq (tOp (rIx K) (tVar 0) (tC (V.int 1))) (tC (V.int 1)))) (tFmt (tOp (rIx K) (tVar 0) (tC (V.int 0)))) (tJoined [(tFmt (tOp (rIx K) (tVar 0) (tC (V.int 0)))), (tC (V.str "/")), (tFmt (tOp (rIx K) (tVar 0) (tC (V.int 1))))])))
-- slots of part_text: 0 one
theorem ln_part_text : ∀ ds A, P_partText ds A → ds.length = 1 := fun ds A h => by obtain ⟨_, rfl, _⟩ := h; rfl
theorem rd_part_text {ds A} (h : P_partText ds A) : SW K cs W0 (t_part_text K) (frame 1 ds) (rts0 A) := qt_of (by simp (disch := with_unfolding_all
  obtain ⟨p, rfl, h1, h2, q⟩ := h
  have l1 := intL_len (Nat.lt_trans h1 (Nat.pow_lt_pow_right (by decide) (show 500 < 700 by decide)))
  have l2 := intL_len (Nat.lt_trans h2 (Nat.pow_lt_pow_right (by decide) (show 500 < 700 by decide)))
  unfold partT at q
  unfold t_part_text
  walk_at "w"
  refine cnd_d (fun e => ?_) (fun e => ?_)
  · rw [if_pos e] at q
    walk_at "w"
    refine .inr ⟨_, rfl, log_small h1, ?_⟩
    rw [str_int]
    exact q
  · rw [if_neg e] at q
    walk_at "w"
    refine .inr ⟨_, rfl, log_small h1, ?_⟩
    rw [str_int]
    have sz : ∀ m : List Nat, m.length ≤ 5000 → (tx m).length ≤ sizeLine := fun m hm => by rw [tx_len]; exact Nat.le_trans hm (by decide)
    have e0 : Str.empty = tx [] := rfl
    refine ⟨_, rfl, by rw [e0, tx_app]; exact sz _ (by simp; omega), ?_⟩
    rw [e0, tx_app, List.nil_append]
    walk_at "w"
    rw [tx_stroke, tx_app]
    refine ⟨sz _ (by simp; omega), ?_⟩
    walk_at "w"
    refine .inr ⟨_, rfl, log_small h2, ?_⟩
    rw [str_int]
    refine ⟨_, rfl, by rw [tx_app]; exact sz _ (by simp; omega), ?_⟩
    rw [tx_app]
    walk_at "w"
    rw [List.append_assoc]
    exact q
  ) only [↓qt_eq])
end


end
section
open PySem PyProof.Rows L2 Evl U.Hull

section
variable {K : Fg} {cs : Cs} {gs : Gs} {φ : PyData → Prop} {A : Rs → Prop} {ε : Xw → Prop} {w : World} {W : WX}
/-! ### a sign by its place -/
noncomputable def P_lsign : Pr := fun ds A => ∃ k : Int, ds = [.int k] ∧ 0 ≤ k ∧ k < 12 ∧ ∀ l : List Nat, l.length ≤ 2 → A (.ok (.str (tx l)))
noncomputable def t__law_sign_of (K : Fg) : TS := (tRet (tOp (rIx K) (tLst (tCons (tC (V.str "0")) (tCons (tC (V.str "1")) (tCons (tC (V.str "2")) (tCons (tC (V.str "-")) (tCons (tC (V.str "/")) (tCons (tC (V.str "")) (tCons (tC (V.str "3")) (tCons (tC (V.str "10")) (tCons (tC (V.str " ")) (tCons (tC (V.str "+")) (tCons (tC (V.str "/")) (tCons (tC (V.str "a")) tNil))))))))))))) (tVar 0)))
-- slots of _law_sign_of: 0 _law_at
theorem ln__law_sign_of : ∀ ds A, P_lsign ds A → ds.length = 1 := fun ds A h => by obtain ⟨_, rfl, _⟩ := h; rfl
noncomputable def signs12 : List Str := ["0", "1", "2", "-", "/", "", "3", "10", " ", "+", "/", "a"]
theorem signs_len : ∀ z ∈ signs12, (TL.tl z).length ≤ 2 := qt_of (by simp (disch := with_unfolding_all
  intro z hz
  simp only [signs12, List.mem_cons, List.not_mem_nil, or_false] at hz
  rcases hz with rfl | rfl | rfl | rfl | rfl | rfl | rfl | rfl | rfl | rfl | rfl | rfl <;> (rw [TL.tl_ofString]; decide)
  ) only [↓qt_eq])
theorem rd__law_sign_of {ds A} (h : P_lsign ds A) : SW K cs W0 (t__law_sign_of K) (frame 1 ds) (rts0 A) := qt_of (by simp (disch := with_unfolding_all
  obtain ⟨k, rfl, h0, h1, q⟩ := h
  unfold t__law_sign_of
  walk_at "w"
  obtain ⟨j, rfl⟩ := Int.eq_ofNat_of_zero_le h0
  have hj : j < signs12.length := by show j < 12; omega
  refine ⟨by decide, ?_⟩
  walk_at "w"
  refine ⟨.str signs12[j], ?_, ?_⟩
  · show atI (signs12.map PyData.str) (j : Int) = _
    refine atI_nat ?_
    rw [List.getElem?_map, List.getElem?_eq_getElem hj]
    rfl
  · have := q (TL.tl signs12[j]) (signs_len _ (List.getElem_mem hj))
    rw [← tx_of] at this
    exact this
  ) only [↓qt_eq])
end


end
namespace Law
def topS (i : Nat) : Stmt := PySem.Challenge.pw_umbrage_k05_fractions_written_and_read.main.body.getD i (.Pass ⟨0, 0, 0, 0⟩)
def clsS (i j : Nat) : Stmt := match topS i with | .ClassDef _ _ _ b _ _ _ _ _ _ _ => b.getD j (.Pass ⟨0, 0, 0, 0⟩) | _ => .Pass ⟨0, 0, 0, 0⟩
abbrev si_Unfit : Stmt := clsS 1 0
theorem sci_Unfit : FnScope ["self", "word"] ["self", "word"] (defScope si_Unfit) := ⟨rfl, rfl, rfl, by decide +kernel, rfl, by decide +kernel, by decide +kernel⟩
abbrev si_BadPart : Stmt := clsS 2 0
theorem sci_BadPart : FnScope ["self"] ["self"] (defScope si_BadPart) := ⟨rfl, rfl, rfl, by decide +kernel, rfl, by decide +kernel, by decide +kernel⟩
abbrev si_BadSpot : Stmt := clsS 3 0
theorem sci_BadSpot : FnScope ["self"] ["self"] (defScope si_BadSpot) := ⟨rfl, rfl, rfl, by decide +kernel, rfl, by decide +kernel, by decide +kernel⟩
abbrev s__law_bag : Stmt := topS 13
theorem sc__law_bag : FnScope ["_law_script"] ["_law_script"] (defScope s__law_bag) := ⟨rfl, rfl, rfl, by decide +kernel, rfl, by decide +kernel, by decide +kernel⟩
abbrev s__law_gcd : Stmt := topS 16
theorem sc__law_gcd : FnScope ["_law_one", "_law_other", "_law_kept"] ["_law_one", "_law_other"] (defScope s__law_gcd) := ⟨rfl, rfl, rfl, by decide +kernel, rfl, by decide +kernel, by decide +kernel⟩
abbrev s__law_frac : Stmt := topS 17
theorem sc__law_frac : FnScope ["_law_above", "_law_below", "_law_divisor"] ["_law_above", "_law_below"] (defScope s__law_frac) := ⟨rfl, rfl, rfl, by decide +kernel, rfl, by decide +kernel, by decide +kernel⟩
abbrev s__law_pull : Stmt := topS 14
theorem sc__law_pull : FnScope ["_law_bag_here", "_law_size", "_law_cells", "_law_cell", "_law_spot"] ["_law_bag_here", "_law_size"] (defScope s__law_pull) := ⟨rfl, rfl, rfl, by decide +kernel, rfl, by decide +kernel, by decide +kernel⟩
abbrev s__law_far : Stmt := topS 19
theorem sc__law_far : FnScope ["_law_bag_here"] ["_law_bag_here"] (defScope s__law_far) := ⟨rfl, rfl, rfl, by decide +kernel, rfl, by decide +kernel, by decide +kernel⟩
abbrev s__law_far_part : Stmt := topS 20
theorem sc__law_far_part : FnScope ["_law_bag_here"] ["_law_bag_here"] (defScope s__law_far_part) := ⟨rfl, rfl, rfl, by decide +kernel, rfl, by decide +kernel, by decide +kernel⟩
abbrev s__law_part : Stmt := topS 18
theorem sc__law_part : FnScope ["_law_bag_here"] ["_law_bag_here"] (defScope s__law_part) := ⟨rfl, rfl, rfl, by decide +kernel, rfl, by decide +kernel, by decide +kernel⟩
abbrev s__law_like : Stmt := topS 15
theorem sc__law_like : FnScope ["_law_found", "_law_due_here", "_law_at"] ["_law_found", "_law_due_here"] (defScope s__law_like) := ⟨rfl, rfl, rfl, by decide +kernel, rfl, by decide +kernel, by decide +kernel⟩
abbrev s__law_sign_of : Stmt := topS 24
theorem sc__law_sign_of : FnScope ["_law_at"] ["_law_at"] (defScope s__law_sign_of) := ⟨rfl, rfl, rfl, by decide +kernel, rfl, by decide +kernel, by decide +kernel⟩
abbrev s_part_text : Stmt := topS 7
theorem sc_part_text : FnScope ["one"] ["one"] (defScope s_part_text) := ⟨rfl, rfl, rfl, by decide +kernel, rfl, by decide +kernel, by decide +kernel⟩
abbrev s_figures_of : Stmt := topS 8
theorem sc_figures_of : FnScope ["text", "most", "sign"] ["text", "most"] (defScope s_figures_of) := ⟨rfl, rfl, rfl, by decide +kernel, rfl, by decide +kernel, by decide +kernel⟩
abbrev s_whole_in : Stmt := topS 9
theorem sc_whole_in : FnScope ["text", "most", "found"] ["text", "most"] (defScope s_whole_in) := ⟨rfl, rfl, rfl, by decide +kernel, rfl, by decide +kernel, by decide +kernel⟩
abbrev s_shared : Stmt := topS 6
theorem sc_shared : FnScope ["one", "other"] ["one", "other"] (defScope s_shared) := ⟨rfl, rfl, rfl, by decide +kernel, rfl, by decide +kernel, by decide +kernel⟩
abbrev s_part_in : Stmt := topS 10
theorem sc_part_in : FnScope ["text", "most", "above", "below", "first", "stroke", "second"] ["text", "most"] (defScope s_part_in) := ⟨rfl, rfl, rfl, by decide +kernel, rfl, by decide +kernel, by decide +kernel⟩
abbrev s_read_part : Stmt := topS 11
theorem sc_read_part : FnScope ["text", "found"] ["text"] (defScope s_read_part) := ⟨rfl, rfl, rfl, by decide +kernel, rfl, by decide +kernel, by decide +kernel⟩
abbrev s__law_read : Stmt := topS 21
theorem sc__law_read : FnScope ["_law_text", "why"] ["_law_text"] (defScope s__law_read) := ⟨rfl, rfl, rfl, by decide +kernel, rfl, by decide +kernel, by decide +kernel⟩
abbrev s__law_count : Stmt := topS 22
theorem sc__law_count : FnScope ["_law_text", "_law_sign"] ["_law_text"] (defScope s__law_count) := ⟨rfl, rfl, rfl, by decide +kernel, rfl, by decide +kernel, by decide +kernel⟩
abbrev s__law_due : Stmt := topS 23
theorem sc__law_due : FnScope ["_law_text", "_law_at", "_law_first", "_law_below", "_law_signed", "_law_above"] ["_law_text"] (defScope s__law_due) := ⟨rfl, rfl, rfl, by decide +kernel, rfl, by decide +kernel, by decide +kernel⟩
abbrev s_law : Stmt := topS 25
theorem sc_law : FnScope ["_law_script", "_law_bag_here", "_law_turn", "_law_one", "_law_text", "_law_odd", "_law_long", "_law_other", "_law_at"] ["_law_script"] (defScope s_law) := ⟨rfl, rfl, rfl, by decide +kernel, rfl, by decide +kernel, by decide +kernel⟩
set_option genInjectivity false
set_option genSizeOf false
structure TX (K : Fg) (mg : Str → Option Value) where
  cs : Cs
  ox_Unfit : OxK K (cs "Unfit")
  kC_Unfit : PySem.W.keepIn K (.ref (cs "Unfit")) = true
  fI_Unfit : Addr
  dI_Unfit : FuncData
  FI_Unfit : FunD K "__init__" "Unfit.__init__" (defArgs si_Unfit) (defBody si_Unfit) (defScope si_Unfit) [V.str "Unfit"] [] fI_Unfit dI_Unfit
  i_Unfit : PySem.W.findIn K (.ref (cs "Unfit")) "__init__" = some (some (.ref fI_Unfit))
  ti_Unfit : PySem.W.typeIn K (.ref fI_Unfit) = some (.type "function")
  bi_Unfit : Binds K dI_Unfit ["self", "word"] []
  g_Unfit : mg "Unfit" = some (.ref (cs "Unfit"))
  xf_Unfit : XfC K (cs "Unfit")
  nw_Unfit_word : PySem.W.findIn K (.ref (cs "Unfit")) "word" = some none
  cf_Unfit : ClsF K cs "Unfit" ["word"]
  rd_Unfit : PySem.W.readsIn K (cs "Unfit") (.type "type") = true
  ga_Unfit : PySem.W.specialIn K (.ref (cs "Unfit")) "__getattribute__" = some (some (.builtin "type.__getattribute__"))
  fc_Unfit : PySem.W.findCls K (.ref (cs "Unfit")) (.type "type") "__init__" = some (.val (.ref fI_Unfit))
  ox_BadPart : OxK K (cs "BadPart")
  kC_BadPart : PySem.W.keepIn K (.ref (cs "BadPart")) = true
  fI_BadPart : Addr
  dI_BadPart : FuncData
  FI_BadPart : Fun K "__init__" "BadPart.__init__" si_BadPart fI_BadPart dI_BadPart
  i_BadPart : PySem.W.findIn K (.ref (cs "BadPart")) "__init__" = some (some (.ref fI_BadPart))
  ti_BadPart : PySem.W.typeIn K (.ref fI_BadPart) = some (.type "function")
  bi_BadPart : Binds K dI_BadPart ["self"] []
  g_BadPart : mg "BadPart" = some (.ref (cs "BadPart"))
  xf_BadPart : XfC K (cs "BadPart")
  nw_BadPart_word : PySem.W.findIn K (.ref (cs "BadPart")) "word" = some none
  cf_BadPart : ClsF K cs "BadPart" ["word"]
  ox_BadSpot : OxK K (cs "BadSpot")
  kC_BadSpot : PySem.W.keepIn K (.ref (cs "BadSpot")) = true
  fI_BadSpot : Addr
  dI_BadSpot : FuncData
  FI_BadSpot : Fun K "__init__" "BadSpot.__init__" si_BadSpot fI_BadSpot dI_BadSpot
  i_BadSpot : PySem.W.findIn K (.ref (cs "BadSpot")) "__init__" = some (some (.ref fI_BadSpot))
  ti_BadSpot : PySem.W.typeIn K (.ref fI_BadSpot) = some (.type "function")
  bi_BadSpot : Binds K dI_BadSpot ["self"] []
  g_BadSpot : mg "BadSpot" = some (.ref (cs "BadSpot"))
  xf_BadSpot : XfC K (cs "BadSpot")
  nw_BadSpot_word : PySem.W.findIn K (.ref (cs "BadSpot")) "word" = some none
  cf_BadSpot : ClsF K cs "BadSpot" ["word"]
  em_BadPart_BadPart : PySem.W.exmOne K (.ref (cs "BadPart")) (.ref (cs "BadPart")) = some true
  is_BadPart : IsX K (cs "BadPart")
  ko_BadPart_BadSpot : PySem.W.kitOne K (.ref (cs "BadPart")) (.ref (cs "BadSpot")) = some false
  ko_BadPart_TValueError : PySem.W.kitOne K (.ref (cs "BadPart")) (.type "ValueError") = some true
  ko_BadPart_Unfit : PySem.W.kitOne K (.ref (cs "BadPart")) (.ref (cs "Unfit")) = some true
  a__law_bag : Addr
  d__law_bag : FuncData
  F__law_bag : Fun K "_law_bag" "_law_bag" s__law_bag a__law_bag d__law_bag
  g__law_bag : mg "_law_bag" = some (.ref a__law_bag)
  b__law_bag : Binds K d__law_bag ["_law_script"] []
  a__law_gcd : Addr
  d__law_gcd : FuncData
  F__law_gcd : Fun K "_law_gcd" "_law_gcd" s__law_gcd a__law_gcd d__law_gcd
  g__law_gcd : mg "_law_gcd" = some (.ref a__law_gcd)
  b__law_gcd : Binds K d__law_gcd ["_law_one", "_law_other"] []
  a__law_frac : Addr
  d__law_frac : FuncData
  F__law_frac : Fun K "_law_frac" "_law_frac" s__law_frac a__law_frac d__law_frac
  g__law_frac : mg "_law_frac" = some (.ref a__law_frac)
  b__law_frac : Binds K d__law_frac ["_law_above", "_law_below"] []
  a__law_pull : Addr
  d__law_pull : FuncData
  F__law_pull : Fun K "_law_pull" "_law_pull" s__law_pull a__law_pull d__law_pull
  g__law_pull : mg "_law_pull" = some (.ref a__law_pull)
  b__law_pull : Binds K d__law_pull ["_law_bag_here", "_law_size"] []
  a__law_far : Addr
  d__law_far : FuncData
  F__law_far : Fun K "_law_far" "_law_far" s__law_far a__law_far d__law_far
  g__law_far : mg "_law_far" = some (.ref a__law_far)
  b__law_far : Binds K d__law_far ["_law_bag_here"] []
  a__law_far_part : Addr
  d__law_far_part : FuncData
  F__law_far_part : Fun K "_law_far_part" "_law_far_part" s__law_far_part a__law_far_part d__law_far_part
  g__law_far_part : mg "_law_far_part" = some (.ref a__law_far_part)
  b__law_far_part : Binds K d__law_far_part ["_law_bag_here"] []
  a__law_part : Addr
  d__law_part : FuncData
  F__law_part : Fun K "_law_part" "_law_part" s__law_part a__law_part d__law_part
  g__law_part : mg "_law_part" = some (.ref a__law_part)
  b__law_part : Binds K d__law_part ["_law_bag_here"] []
  a__law_like : Addr
  d__law_like : FuncData
  F__law_like : Fun K "_law_like" "_law_like" s__law_like a__law_like d__law_like
  g__law_like : mg "_law_like" = some (.ref a__law_like)
  b__law_like : Binds K d__law_like ["_law_found", "_law_due_here"] []
  a__law_sign_of : Addr
  d__law_sign_of : FuncData
  F__law_sign_of : Fun K "_law_sign_of" "_law_sign_of" s__law_sign_of a__law_sign_of d__law_sign_of
  g__law_sign_of : mg "_law_sign_of" = some (.ref a__law_sign_of)
  b__law_sign_of : Binds K d__law_sign_of ["_law_at"] []
  a_part_text : Addr
  d_part_text : FuncData
  F_part_text : Fun K "part_text" "part_text" s_part_text a_part_text d_part_text
  g_part_text : mg "part_text" = some (.ref a_part_text)
  b_part_text : Binds K d_part_text ["one"] []
  a_figures_of : Addr
  d_figures_of : FuncData
  F_figures_of : Fun K "figures_of" "figures_of" s_figures_of a_figures_of d_figures_of
  g_figures_of : mg "figures_of" = some (.ref a_figures_of)
  b_figures_of : Binds K d_figures_of ["text", "most"] []
  a_whole_in : Addr
  d_whole_in : FuncData
  F_whole_in : FunD K "whole_in" "whole_in" (defArgs s_whole_in) (defBody s_whole_in) (defScope s_whole_in) [] [("most", V.int 40)] a_whole_in d_whole_in
  g_whole_in : mg "whole_in" = some (.ref a_whole_in)
  kb_whole_in : KBn K d_whole_in ["text", "most"] 1 ["most"] (fun us ws => us ++ ws) (fun vs zs => vs ++ zs)
  e1_whole_in : List Value
  v1_whole_in : Vals [V.int 40] e1_whole_in
  b1_whole_in : Binds K d_whole_in ["text", "most"] e1_whole_in
  a_shared : Addr
  d_shared : FuncData
  F_shared : Fun K "shared" "shared" s_shared a_shared d_shared
  g_shared : mg "shared" = some (.ref a_shared)
  b_shared : Binds K d_shared ["one", "other"] []
  a_part_in : Addr
  d_part_in : FuncData
  F_part_in : FunD K "part_in" "part_in" (defArgs s_part_in) (defBody s_part_in) (defScope s_part_in) [] [("most", V.int 40)] a_part_in d_part_in
  g_part_in : mg "part_in" = some (.ref a_part_in)
  kb_part_in : KBn K d_part_in ["text", "most"] 1 ["most"] (fun us ws => us ++ ws) (fun vs zs => vs ++ zs)
  e1_part_in : List Value
  v1_part_in : Vals [V.int 40] e1_part_in
  b1_part_in : Binds K d_part_in ["text", "most"] e1_part_in
  a_read_part : Addr
  d_read_part : FuncData
  F_read_part : Fun K "read_part" "read_part" s_read_part a_read_part d_read_part
  g_read_part : mg "read_part" = some (.ref a_read_part)
  b_read_part : Binds K d_read_part ["text"] []
  a__law_read : Addr
  d__law_read : FuncData
  F__law_read : Fun K "_law_read" "_law_read" s__law_read a__law_read d__law_read
  g__law_read : mg "_law_read" = some (.ref a__law_read)
  b__law_read : Binds K d__law_read ["_law_text"] []
  a__law_count : Addr
  d__law_count : FuncData
  F__law_count : Fun K "_law_count" "_law_count" s__law_count a__law_count d__law_count
  g__law_count : mg "_law_count" = some (.ref a__law_count)
  b__law_count : Binds K d__law_count ["_law_text"] []
  a__law_due : Addr
  d__law_due : FuncData
  F__law_due : Fun K "_law_due" "_law_due" s__law_due a__law_due d__law_due
  g__law_due : mg "_law_due" = some (.ref a__law_due)
  b__law_due : Binds K d__law_due ["_law_text"] []
  n_ValueError : mg "ValueError" = none
  n_abs : mg "abs" = none
  n_all : mg "all" = none
  n_bool : mg "bool" = none
  n_int : mg "int" = none
  n_isinstance : mg "isinstance" = none
  n_len : mg "len" = none
  n_list : mg "list" = none
  n_max : mg "max" = none
  n_range : mg "range" = none
  n_str : mg "str" = none
  n_tuple : mg "tuple" = none
section
variable {Pg : Program} {w : World} {K : Fg} {mg : Str → Option Value} {base : Heap} {cs : Cs} {gs : Gs}
theorem ok_Unfit (T : TX K mg) : FnOk Pg w K mg base CX0 1 T.fI_Unfit T.dI_Unfit ["self", "word"] (spIn K ["word"] gWd) :=
  okWd T.FI_Unfit sci_Unfit (fun cdv A outer sh H E => (pss_one (ps_ox (pv 0) (pv 1))))
theorem ok_BadPart (T : TX K mg) : FnOk Pg w K mg base CX0 2 T.fI_BadPart T.dI_BadPart ["self"] (spIn K ["word"] (gCw "BadPart")) :=
  okSub "BadPart" T.FI_BadPart sci_BadPart (fun cdv A outer sh H E hr => (pss_one (ps_expr (pe_up (by rfl) T.g_Unfit T.rd_Unfit T.ga_Unfit T.fc_Unfit T.FI_Unfit.kp (ok_Unfit T) (hr.mono (by decide)) T.bi_Unfit .nil pass0 (pa_cons (pv 0) (pa_cons pe_str pa_nil))))))
theorem ok_BadSpot (T : TX K mg) : FnOk Pg w K mg base CX0 2 T.fI_BadSpot T.dI_BadSpot ["self"] (spIn K ["word"] (gCw "BadSpot")) :=
  okSub "BadSpot" T.FI_BadSpot sci_BadSpot (fun cdv A outer sh H E hr => (pss_one (ps_expr (pe_up (by rfl) T.g_Unfit T.rd_Unfit T.ga_Unfit T.fc_Unfit T.FI_Unfit.kp (ok_Unfit T) (hr.mono (by decide)) T.bi_Unfit .nil pass0 (pa_cons (pv 0) (pa_cons pe_str pa_nil))))))
theorem ok__law_bag (T : TX K mg) : FnOk Pg w K mg base CX0 1 T.a__law_bag T.d__law_bag ["_law_script"] (spBag K) := qt_of (by simp (disch := with_unfolding_all
  refine T.F__law_bag.ok sc__law_bag (fun vs H Q E h => ?_) (fun cdv A outer sh H vs Q E hr h => ?_)
  · obtain ⟨W, ns, _, hd, _⟩ := h
    exact dpa_len hd
  · obtain ⟨W, ns, hW, hd, hl, q⟩ := h
    obtain ⟨v, rfl, dv⟩ := dp1 hd
    exact ⟨t__law_bag K, (pss_one (ps_ret (pe_lst (pa_cons (pe_callTy c_list (by rfl) T.n_list (by decide +kernel) (pa_cons (pe_slice sl_list (pv 0) po_none (po_some pe_int)) pa_nil)) (pa_cons pe_int (pa_cons pe_int pa_nil)))))), rd__law_bag dv hl q⟩
  ) only [↓qt_eq])
theorem ok__law_gcd (T : TX K mg) : FnOk Pg w K mg base CX0 1 T.a__law_gcd T.d__law_gcd ["_law_one", "_law_other"] (spP K P_gcd) :=
  okP T.F__law_gcd sc__law_gcd ln__law_gcd (fun ds r h cdv A outer sh H E hr => ⟨t__law_gcd K, (pss_cons (ps_set (i := 0) sc__law_gcd.nd rfl (by first | exact Or.inl rfl | exact Or.inr rfl) (pe_callB c_abs (by rfl) T.n_abs (by decide +kernel) (pa_cons (pv 0) pa_nil)))
      (pss_cons (ps_set (i := 1) sc__law_gcd.nd rfl (by first | exact Or.inl rfl | exact Or.inr rfl) (pe_callB c_abs (by rfl) T.n_abs (by decide +kernel) (pa_cons (pv 1) pa_nil)))
      (pss_cons (ps_while PassesOwn.never (pt_cmpR op_gt (pv 1) pe_int (nomark _)) (pss_cons (ps_set (i := 2) sc__law_gcd.nd rfl (by first | exact Or.inl rfl | exact Or.inr rfl) (pv 1))
      (pss_cons (ps_set (i := 1) sc__law_gcd.nd rfl (by first | exact Or.inl rfl | exact Or.inr rfl) (pe_op op_modX (pv 0) (pv 1)))
      (pss_one (ps_set (i := 0) sc__law_gcd.nd rfl (by first | exact Or.inl rfl | exact Or.inr rfl) (pv 2))))))
      (pss_one (ps_ret (pe_callB (c_max2 rfl) (by rfl) T.n_max (by decide +kernel) (pa_cons pe_int (pa_cons (pv 0) pa_nil)))))))), rd__law_gcd h⟩)
theorem ok__law_frac (T : TX K mg) : FnOk Pg w K mg base CX0 2 T.a__law_frac T.d__law_frac ["_law_above", "_law_below"] (spP K P_frac) :=
  okP T.F__law_frac sc__law_frac ln__law_frac (fun ds r h cdv A outer sh H E hr => ⟨t__law_frac K, (pss_cons (ps_set (i := 2) sc__law_frac.nd rfl (by first | exact Or.inl rfl | exact Or.inr rfl) (pe_call (ok__law_gcd T) (hr.mono (by decide)) (by rfl) T.g__law_gcd T.F__law_gcd.kp T.b__law_gcd .nil pass0 (pa_cons (pv 0) (pa_cons (pv 1) pa_nil))))
      (pss_cons (ps_if (pt_cmpR op_lt (pv 1) pe_int (nomark _)) (pss_one (ps_set (i := 2) sc__law_frac.nd rfl (by first | exact Or.inl rfl | exact Or.inr rfl) (pe_un un_neg (pv 2)))) pss_nil)
      (pss_one (ps_ret (pe_tup (pa_cons (pe_op op_fdivX (pv 0) (pv 2)) (pa_cons (pe_op op_fdivX (pv 1) (pv 2)) pa_nil))))))), rd__law_frac h⟩)
theorem ok__law_pull (T : TX K mg) : FnOk Pg w K mg base CX0 1 T.a__law_pull T.d__law_pull ["_law_bag_here", "_law_size"] (spB K P_pull) := qt_of (by simp (disch := with_unfolding_all
  refine T.F__law_pull.ok sc__law_pull (fun vs H Q E h => ?_) (fun cdv A outer sh H vs Q E hr h => ?_)
  · obtain ⟨W, b, c, us, s, ds, r, s', _, rfl, _, hd, hp, _⟩ := h
    rw [List.length_cons, dpa_len hd]
    exact ln__law_pull s ds r s' hp
  · obtain ⟨W, b, c, us, s, ds, r, s', hW, rfl, hB, hd, ⟨n, rfl, h0, h1, rfl, rfl⟩, q⟩ := h
    obtain ⟨v, rfl, dv⟩ := dp1 hd
    cases dv
    exact ⟨t__law_pull K, (pss_cons (ps_set (i := 2) sc__law_pull.nd rfl (by first | exact Or.inl rfl | exact Or.inr rfl) (pe_ix ix_seq (pv 0) pe_int (fun _ _ => rfl)))
      (pss_cons (ps_set (i := 3) sc__law_pull.nd rfl (by first | exact Or.inl rfl | exact Or.inr rfl) pe_int)
      (pss_cons (ps_if (pt_cmpR op_gt (pe_callB c_len (by rfl) T.n_len PySem.boot_len (pa_cons (pv 2) pa_nil)) pe_int (nomark _)) (pss_cons (ps_set (i := 4) sc__law_pull.nd rfl (by first | exact Or.inl rfl | exact Or.inr rfl) (pe_op op_modX (pe_ix ix_seq (pv 0) pe_int (fun _ _ => rfl)) (pe_callB c_len (by rfl) T.n_len PySem.boot_len (pa_cons (pv 2) pa_nil))))
      (pss_cons (ps_set (i := 3) sc__law_pull.nd rfl (by first | exact Or.inl rfl | exact Or.inr rfl) (pe_ix ix_seq (pv 2) (pv 4) (fun _ _ => rfl)))
      (pss_one (ps_if (pt_cmpR op_ge (pe_callB c_abs (by rfl) T.n_abs (by decide +kernel) (pa_cons (pv 3) pa_nil)) (pe_op op_pow pe_int pe_int) (nomark _)) (pss_cons (ps_asg (pe_op op_fdivX (pv 3) (pv 1)) (pg_sub (pv 2) (pv 4) set_list))
      (pss_one (ps_ret (pe_op op_modX (pv 3) (pv 1))))) pss_nil)))) pss_nil)
      (pss_cons (ps_asg (pe_op op_add (pe_ix ix_seq (pv 0) pe_int (fun _ _ => rfl)) pe_int) (pg_sub (pv 0) pe_int set_list))
      (pss_cons (ps_asg (pe_op op_modX (pe_op op_add (pe_op op_add (pe_op op_mulW (pe_ix ix_seq (pv 0) pe_int (fun _ _ => rfl)) pe_int) (pe_op op_modX (pv 3) pe_int)) (pe_ix ix_seq (pv 0) pe_int (fun _ _ => rfl))) pe_int) (pg_sub (pv 0) pe_int set_list))
      (pss_one (ps_ret (pe_op op_modX (pe_op op_fdivX (pe_op op_modX (pe_op op_add (pe_op op_mulW (pe_ix ix_seq (pv 0) pe_int (fun _ _ => rfl)) pe_int) (pe_op op_fdivX (pe_ix ix_seq (pv 0) pe_int (fun _ _ => rfl)) pe_int)) pe_int) pe_int) (pv 1))))))))), rd__law_pull hB h0 h1 q⟩
  ) only [↓qt_eq])
theorem ok__law_far (T : TX K mg) : FnOk Pg w K mg base CX0 2 T.a__law_far T.d__law_far ["_law_bag_here"] (spB K P_far) :=
  okB T.F__law_far sc__law_far ln__law_far (fun s ds r s' h ok cdv A outer sh H E hr => ⟨t__law_far K, (pss_one (ps_ret (pe_op op_sub (pe_op op_add (pe_ix ix_seq (pe_lst (pa_cons pe_int (pa_cons pe_int (pa_cons (pe_un un_neg pe_int) (pa_cons (pe_op op_add (pe_op op_pow pe_int pe_int) pe_int) (pa_cons (pe_op op_sub (pe_un un_neg (pe_op op_pow pe_int pe_int)) pe_int) (pa_cons (pe_op op_pow pe_int pe_int) pa_nil))))))) (pe_call (ok__law_pull T) (hr.mono (by decide)) (by rfl) T.g__law_pull T.F__law_pull.kp T.b__law_pull .nil pass0 (pa_cons (pv 0) (pa_cons pe_int pa_nil))) (fun _ _ => rfl)) (pe_call (ok__law_pull T) (hr.mono (by decide)) (by rfl) T.g__law_pull T.F__law_pull.kp T.b__law_pull .nil pass0 (pa_cons (pv 0) (pa_cons pe_int pa_nil)))) pe_int))), rd__law_far h ok⟩)
theorem ok__law_far_part (T : TX K mg) : FnOk Pg w K mg base CX0 3 T.a__law_far_part T.d__law_far_part ["_law_bag_here"] (spB K P_farPart) :=
  okB T.F__law_far_part sc__law_far_part ln__law_far_part (fun s ds r s' h ok cdv A outer sh H E hr => ⟨t__law_far_part K, (pss_one (ps_ret (pe_call (ok__law_frac T) (hr.mono (by decide)) (by rfl) T.g__law_frac T.F__law_frac.kp T.b__law_frac .nil pass0 (pa_cons (pe_call (ok__law_far T) (hr.mono (by decide)) (by rfl) T.g__law_far T.F__law_far.kp T.b__law_far .nil pass0 (pa_cons (pv 0) pa_nil)) (pa_cons (pe_op op_add pe_int (pe_callB c_abs (by rfl) T.n_abs (by decide +kernel) (pa_cons (pe_call (ok__law_far T) (hr.mono (by decide)) (by rfl) T.g__law_far T.F__law_far.kp T.b__law_far .nil pass0 (pa_cons (pv 0) pa_nil)) pa_nil))) pa_nil))))), rd__law_far_part h ok⟩)
theorem ok__law_part (T : TX K mg) : FnOk Pg w K mg base CX0 3 T.a__law_part T.d__law_part ["_law_bag_here"] (spB K P_part) :=
  okB T.F__law_part sc__law_part ln__law_part (fun s ds r s' h ok cdv A outer sh H E hr => ⟨t__law_part K, (pss_one (ps_ret (pe_call (ok__law_frac T) (hr.mono (by decide)) (by rfl) T.g__law_frac T.F__law_frac.kp T.b__law_frac .nil pass0 (pa_cons (pe_op op_sub (pe_call (ok__law_pull T) (hr.mono (by decide)) (by rfl) T.g__law_pull T.F__law_pull.kp T.b__law_pull .nil pass0 (pa_cons (pv 0) (pa_cons pe_int pa_nil))) pe_int) (pa_cons (pe_ix ix_seq (pe_lst (pa_cons pe_int (pa_cons pe_int (pa_cons pe_int (pa_cons pe_int pa_nil))))) (pe_call (ok__law_pull T) (hr.mono (by decide)) (by rfl) T.g__law_pull T.F__law_pull.kp T.b__law_pull .nil pass0 (pa_cons (pv 0) (pa_cons pe_int pa_nil))) (fun _ _ => rfl)) pa_nil))))), rd__law_part h ok⟩)
theorem ok__law_like (T : TX K mg) : ∀ n, FnOk Pg w K mg base CX0 n T.a__law_like T.d__law_like ["_law_found", "_law_due_here"] (spP K (P_like n))
  | 0 => fnok_false
  | n + 1 => okP T.F__law_like sc__law_like ln__law_like (fun ds r h cdv A outer sh H E hr => ⟨t__law_like K n, (pss_cons (ps_if (pt_val (pe_callB call_isiT (by rfl) T.n_isinstance (by decide +kernel) (pa_cons (pv 1) (pa_cons (pe_tup (pa_cons (pe_bltn (v := .ty "tuple") (by rfl) T.n_tuple (by decide +kernel) rfl) (pa_cons (pe_bltn (v := .ty "list") (by rfl) T.n_list (by decide +kernel) rfl) pa_nil))) pa_nil)))) (pss_cons (ps_if (pt_cmpR op_ne (pe_callB call_isi (by rfl) T.n_isinstance (by decide +kernel) (pa_cons (pv 0) (pa_cons (pe_bltn (v := .ty "tuple") (by rfl) T.n_tuple (by decide +kernel) rfl) pa_nil))) (pe_callB call_isi (by rfl) T.n_isinstance (by decide +kernel) (pa_cons (pv 1) (pa_cons (pe_bltn (v := .ty "tuple") (by rfl) T.n_tuple (by decide +kernel) rfl) pa_nil))) (nomark _)) (pss_one (ps_ret pe_bl)) pss_nil)
      (pss_cons (ps_if (PW.pt (pw_or (pt_not (pt_val (pe_callB call_isiT (by rfl) T.n_isinstance (by decide +kernel) (pa_cons (pv 0) (pa_cons (pe_tup (pa_cons (pe_bltn (v := .ty "tuple") (by rfl) T.n_tuple (by decide +kernel) rfl) (pa_cons (pe_bltn (v := .ty "list") (by rfl) T.n_list (by decide +kernel) rfl) pa_nil))) pa_nil))))) (pw_or1 (pt_cmpR op_ne (pe_callB c_len (by rfl) T.n_len PySem.boot_len (pa_cons (pv 0) pa_nil)) (pe_callB c_len (by rfl) T.n_len PySem.boot_len (pa_cons (pv 1) pa_nil)) (nomark _))))) (pss_one (ps_ret pe_bl)) pss_nil)
      (pss_one (ps_ret (pe_callB (cr_all rfl) (by rfl) T.n_all (by decide +kernel) (pa_cons (pe_lc (own := [("_law_at", 2)]) (g := (gName 2)) (tt := tYes) rfl sc__law_like.nd (pi_range1 (by rfl) T.n_range (pa_cons (pe_callB c_len (by rfl) T.n_len PySem.boot_len (pa_cons (pv 1) pa_nil)) pa_nil)) (blkOk_by (own := [("_law_at", 2)]) (N := ["_law_found", "_law_due_here", "_law_at"]) (sc := defScope s__law_like) (by decide +kernel)) (fun _ _ _ _ _ => (pg_name (i := 2) sc__law_like.nd rfl (by first | exact Or.inl rfl | exact Or.inr rfl))) (fun _ _ _ _ _ => pts_nil) (fun _ _ _ _ _ => (pe_call (ok__law_like T n) hr (by rfl) T.g__law_like T.F__law_like.kp T.b__law_like .nil pass0 (pa_cons (pe_ix ix_seq (pv 0) (pv 2) (fun _ _ => rfl)) (pa_cons (pe_ix ix_seq (pv 1) (pv 2) (fun _ _ => rfl)) pa_nil))))) pa_nil)))))) pss_nil)
      (pss_cons (ps_if (pt_val (pe_callB call_isi (by rfl) T.n_isinstance (by decide +kernel) (pa_cons (pv 1) (pa_cons (pe_bltn (v := .ty "bool") (by rfl) T.n_bool (by decide +kernel) rfl) pa_nil)))) (pss_one (ps_ret (pe_and (pe_callB call_isi (by rfl) T.n_isinstance (by decide +kernel) (pa_cons (pv 0) (pa_cons (pe_bltn (v := .ty "bool") (by rfl) T.n_bool (by decide +kernel) rfl) pa_nil))) (pe_one (pe_cmpR op_eq (pv 0) (pv 1) (nomark _)))))) pss_nil)
      (pss_cons (ps_if (pt_val (pe_callB call_isi (by rfl) T.n_isinstance (by decide +kernel) (pa_cons (pv 1) (pa_cons (pe_bltn (v := .ty "int") (by rfl) T.n_int (by decide +kernel) rfl) pa_nil)))) (pss_one (ps_ret (pe_and (pe_callB call_isi (by rfl) T.n_isinstance (by decide +kernel) (pa_cons (pv 0) (pa_cons (pe_bltn (v := .ty "int") (by rfl) T.n_int (by decide +kernel) rfl) pa_nil))) (pe_and (pe_not (pe_callB call_isi (by rfl) T.n_isinstance (by decide +kernel) (pa_cons (pv 0) (pa_cons (pe_bltn (v := .ty "bool") (by rfl) T.n_bool (by decide +kernel) rfl) pa_nil)))) (pe_one (pe_cmpR op_eq (pv 0) (pv 1) (nomark _))))))) pss_nil)
      (pss_cons (ps_if (pt_val (pe_callB call_isi (by rfl) T.n_isinstance (by decide +kernel) (pa_cons (pv 1) (pa_cons (pe_bltn (v := .ty "str") (by rfl) T.n_str (by decide +kernel) rfl) pa_nil)))) (pss_one (ps_ret (pe_and (pe_callB call_isi (by rfl) T.n_isinstance (by decide +kernel) (pa_cons (pv 0) (pa_cons (pe_bltn (v := .ty "str") (by rfl) T.n_str (by decide +kernel) rfl) pa_nil))) (pe_one (pe_cmpR op_eq (pv 0) (pv 1) (nomark _)))))) pss_nil)
      (pss_one (ps_ret (pe_and (pe_cmpR o_isN (pv 1) pe_non (nomark _)) (pe_one (pe_cmpR o_isN (pv 0) pe_non (nomark _)))))))))), rd__law_like h⟩)
theorem ok__law_sign_of (T : TX K mg) : FnOk Pg w K mg base CX0 1 T.a__law_sign_of T.d__law_sign_of ["_law_at"] (spW0 K P_lsign) :=
  okW T.cs T.F__law_sign_of sc__law_sign_of ln__law_sign_of (fun ds A h cdv Ar outer sh H E hr => ⟨t__law_sign_of K, (pss_one (ps_ret (pe_ix ix_seq (pe_lst (pa_cons pe_str (pa_cons pe_str (pa_cons pe_str (pa_cons pe_str (pa_cons pe_str (pa_cons pe_str (pa_cons pe_str (pa_cons pe_str (pa_cons pe_str (pa_cons pe_str (pa_cons pe_str (pa_cons pe_str pa_nil))))))))))))) (pv 0) (fun _ _ => rfl)))), rd__law_sign_of h⟩)
theorem ok_part_text (T : TX K mg) : FnOk Pg w K mg base CX0 1 T.a_part_text T.d_part_text ["one"] (spW0 K P_partText) :=
  okW T.cs T.F_part_text sc_part_text ln_part_text (fun ds A h cdv Ar outer sh H E hr => ⟨t_part_text K, (pss_one (ps_ret (pe_ifExp (pt_cmpR op_eq (pe_ix ix_seq (pv 0) pe_int (fun _ _ => rfl)) pe_int (nomark _)) (pe_joined1 (pe_fmt (pe_ix ix_seq (pv 0) pe_int (fun _ _ => rfl)))) (pe_joinedS (PJ.cons (pe_fmt (pe_ix ix_seq (pv 0) pe_int (fun _ _ => rfl))) (PJ.cons pe_str (PJ.cons (pe_fmt (pe_ix ix_seq (pv 0) pe_int (fun _ _ => rfl))) PJ.nil))))))), rd_part_text h⟩)
theorem ok_figures_of (T : TX K mg) : FnOk Pg w K mg base CX0 1 T.a_figures_of T.d_figures_of ["text", "most"] (spW0 K P_figures) :=
  okW T.cs T.F_figures_of sc_figures_of ln_figures_of (fun ds A h cdv Ar outer sh H E hr => ⟨t_figures_of K, (pss_cons (ps_if (PW.pt (pw_or (pt_not (pt_chain op_leI op_leI pe_int (pe_callB c_lenS (by rfl) T.n_len PySem.boot_len (pa_cons (pv 0) pa_nil)) (pv 1))) (pw_or1 (pt_not (pt_val (pe_callB (cr_all rfl) (by rfl) T.n_all (by decide +kernel) (pa_cons (pe_lc (own := [("sign", 2)]) (g := (gName 2)) (tt := tYes) rfl sc_figures_of.nd (pi_str (pv 0)) (blkOk_by (own := [("sign", 2)]) (N := ["text", "most", "sign"]) (sc := defScope s_figures_of) (by decide +kernel)) (fun _ _ _ _ _ => (pg_name (i := 2) sc_figures_of.nd rfl (by first | exact Or.inl rfl | exact Or.inr rfl))) (fun _ _ _ _ _ => pts_nil) (fun _ _ _ _ _ => (pe_cmpR op_inSg (pv 2) pe_str (by rfl)))) pa_nil))))))) (pss_one (ps_ret pe_non)) pss_nil)
      (pss_cons (ps_if (PW.pt (pw_and (pt_cmpR op_eq (pe_ix ix_str (pv 0) pe_int (fun _ _ => rfl)) pe_str (nomark _)) (pw_and1 (pt_cmpR op_gtI (pe_callB c_lenS (by rfl) T.n_len PySem.boot_len (pa_cons (pv 0) pa_nil)) pe_int (nomark _))))) (pss_one (ps_ret pe_non)) pss_nil)
      (pss_one (ps_ret (pe_callTy c_intS (by rfl) T.n_int (by decide +kernel) (pa_cons (pv 0) pa_nil)))))), rd_figures_of h⟩)
theorem ok_whole_in (T : TX K mg) : FnOk Pg w K mg base CX0 2 T.a_whole_in T.d_whole_in ["text", "most"] (spW0 K P_wholeIn) :=
  okWD T.cs T.F_whole_in sc_whole_in ln_whole_in (fun ds A h cdv Ar outer sh H E hr => ⟨t_whole_in K, (pss_cons (ps_if (pt_cmpR op_ne (pe_slice sl_str (pv 0) po_none (po_some pe_int)) pe_str (nomark _)) (pss_one (ps_ret (pe_call (ok_figures_of T) (hr.mono (by decide)) (by rfl) T.g_figures_of T.F_figures_of.kp T.b_figures_of .nil pass0 (pa_cons (pv 0) (pa_cons (pv 1) pa_nil))))) pss_nil)
      (pss_cons (ps_set (i := 2) sc_whole_in.nd rfl (by first | exact Or.inl rfl | exact Or.inr rfl) (pe_call (ok_figures_of T) (hr.mono (by decide)) (by rfl) T.g_figures_of T.F_figures_of.kp T.b_figures_of .nil pass0 (pa_cons (pe_slice sl_str (pv 0) (po_some pe_int) po_none) (pa_cons (pv 1) pa_nil))))
      (pss_one (ps_ret (pe_ifExp (PW.pt (pw_or (pt_cmpR o_isN (pv 2) pe_non (nomark _)) (pw_or1 (pt_cmpR op_eq (pv 2) pe_int (nomark _))))) pe_non (pe_un un_negI (pv 2))))))), rd_whole_in h⟩)
theorem ok_shared (T : TX K mg) : FnOk Pg w K mg base CX0 1 T.a_shared T.d_shared ["one", "other"] (spP K P_gcd) :=
  okP T.F_shared sc_shared ln_shared (fun ds r h cdv A outer sh H E hr => ⟨t_shared K, (pss_cons (ps_par (i := 0) (j := 1) (by rfl) sc_shared.nd rfl rfl (by decide) rfl rfl (pa_cons (pe_callB c_abs (by rfl) T.n_abs (by decide +kernel) (pa_cons (pv 0) pa_nil)) (pa_cons (pe_callB c_abs (by rfl) T.n_abs (by decide +kernel) (pa_cons (pv 1) pa_nil)) pa_nil)) (by rfl))
      (pss_cons (ps_while PassesOwn.never (pt_cmpR op_gt (pv 1) pe_int (nomark _)) (pss_one (ps_par (i := 0) (j := 1) (by rfl) sc_shared.nd rfl rfl (by decide) rfl rfl (pa_cons (pv 1) (pa_cons (pe_op op_modX (pv 0) (pv 1)) pa_nil)) (by rfl))))
      (pss_one (ps_ret (pe_callB (c_max2 rfl) (by rfl) T.n_max (by decide +kernel) (pa_cons (pv 0) (pa_cons pe_int pa_nil))))))), rd_shared h⟩)
theorem ok_part_in (T : TX K mg) : FnOk Pg w K mg base CX0 3 T.a_part_in T.d_part_in ["text", "most"] (spW0 K P_partIn) :=
  okWD T.cs T.F_part_in sc_part_in ln_part_in (fun ds A h cdv Ar outer sh H E hr => ⟨t_part_in K, (pss_cons (ps_asg (pe_partS (pv 0) pe_str) (pg_tup rfl (pgs_cons (pg_name (i := 4) sc_part_in.nd rfl (by first | exact Or.inl rfl | exact Or.inr rfl)) (pgs_cons (pg_name (i := 5) sc_part_in.nd rfl (by first | exact Or.inl rfl | exact Or.inr rfl)) (pgs_cons (pg_name (i := 6) sc_part_in.nd rfl (by first | exact Or.inl rfl | exact Or.inr rfl)) pgs_nil)))))
      (pss_cons (ps_set (i := 2) sc_part_in.nd rfl (by first | exact Or.inl rfl | exact Or.inr rfl) (pe_callN (n := 1) (ks := ["most"]) (ok_whole_in T) (hr.mono (by decide)) (by rfl) T.g_whole_in T.F_whole_in.kp T.kb_whole_in pass0 (pa_cons (pv 4) pa_nil) (pk_cons (pv 1) pk_nil)))
      (pss_cons (ps_set (i := 3) sc_part_in.nd rfl (by first | exact Or.inl rfl | exact Or.inr rfl) (pe_ifExp (pt_cmpR op_eq (pv 5) pe_str (nomark _)) pe_int (pe_call (ok_figures_of T) (hr.mono (by decide)) (by rfl) T.g_figures_of T.F_figures_of.kp T.b_figures_of .nil pass0 (pa_cons (pv 6) (pa_cons (pv 1) pa_nil)))))
      (pss_cons (ps_if (PW.pt (pw_or (pt_cmpR o_isN (pv 2) pe_non (nomark _)) (pw_or1 (pt_cmpR o_isN (pv 3) pe_non (nomark _))))) (pss_one (ps_ret pe_non)) pss_nil)
      (pss_cons (ps_if (PW.pt (pw_or (PW.pt (pw_and (pt_cmpR op_ne (pv 5) pe_str (nomark _)) (pw_and1 (pt_cmpR op_ltI (pv 3) pe_int (nomark _))))) (pw_or1 (pt_cmpR op_ne (pe_call (ok_shared T) (hr.mono (by decide)) (by rfl) T.g_shared T.F_shared.kp T.b_shared .nil pass0 (pa_cons (pv 2) (pa_cons (pv 3) pa_nil))) pe_int (nomark _))))) (pss_one (ps_ret pe_non)) pss_nil)
      (pss_one (ps_ret (pe_tup (pa_cons (pv 2) (pa_cons (pv 3) pa_nil)))))))))), rd_part_in h⟩)
theorem ok_read_part (T : TX K mg) : FnOk Pg w K mg base (L2.CX Pg w) 4 T.a_read_part T.d_read_part ["text"] (spW K T.cs P_readPart) :=
  okWX T.F_read_part sc_read_part ln_read_part (fun ds A h cdv Ar outer sh H E hr => ⟨t_read_part K T.cs (WD E), (pss_cons (ps_set (i := 1) sc_read_part.nd rfl (by first | exact Or.inl rfl | exact Or.inr rfl) (pe_call (ok_part_in T) (hr.mono (by decide)) (by rfl) T.g_part_in T.F_part_in.kp T.b1_part_in T.v1_part_in pass0 (pa_cons (pv 0) pa_nil)))
      (pss_cons (ps_if (pt_cmpR o_isN (pv 1) pe_non (nomark _)) (pss_one (ps_raise rfl (takes_of rfl rfl rfl rfl) (pmk_ox0 T.ox_BadPart T.kC_BadPart T.i_BadPart T.ti_BadPart (ok_BadPart T) (hr.mono (by decide)) T.bi_BadPart .nil pass0 (by rfl) T.g_BadPart))) pss_nil)
      (pss_one (ps_ret (pv 1))))), rd_read_part T.cf_BadPart h (WD E)⟩)
theorem ok__law_read (T : TX K mg) : FnOk Pg w K mg base CX0 5 T.a__law_read T.d__law_read ["_law_text"] (spW0 K P_lread) :=
  okW T.cs T.F__law_read sc__law_read ln__law_read (fun ds A h cdv Ar outer sh H E hr => ⟨t__law_read K T.cs, (pss_one (ps_try_as (i := 1) (tb := fun W => (tRet (tCallSD (spW K T.cs P_readPart) [] (WE W) (tCons (tVar 0) tNil)))) (ts := fun a cls d => (tSeq (tIfS (tOr (tB (tCB (rIsD K a cls d (T.cs "BadPart")) (tCons (tVar 1) (tCons (tC (V.ref (T.cs "BadSpot"))) tNil)))) (tOr (tNot (tB (tCB (rIsD K a cls d (T.cs "BadPart")) (tCons (tVar 1) (tCons (tC (V.ref (T.cs "Unfit"))) tNil))))) (tNot (tB (tCB (rIsDT K a cls d (T.cs "BadPart") "ValueError") (tCons (tVar 1) (tCons (tC (V.ty "ValueError")) tNil))))))) (tRet (tC V.non)) tNext)
  (tRet (tLst (tCons (tXf a cls d (T.cs "BadPart") "word" (tVar 1)) tNil))))) (Wout := fun _ _ _ _ => False) rfl rfl sc__law_read.nd rfl rfl ⟨rfl, by decide, Or.inl T.g_BadPart⟩ takes0 (fun W pn xe tk _ => (pss_one (ps_ret (pe_callSD (ok_read_part T) (hr.mono (by decide)) (by rfl) T.g_read_part T.F_read_part.kp T.b_read_part .nil (fun σ => passAt tk σ) (pa_cons (pv 0) pa_nil))))) (fun a oe cls d pn hz hf => (pss_cons (ps_if (PW.pt (pw_or (pt_val (pe_callB (call_isD T.xf_BadPart T.is_BadPart hz hf) (by rfl) T.n_isinstance (by decide +kernel) (pa_cons (pv 1) (pa_cons (pe_glob (v := V.ref (T.cs "BadSpot")) (by rfl) T.g_BadSpot rfl) pa_nil)))) (pw_or (pt_not (pt_val (pe_callB (call_isD T.xf_BadPart T.is_BadPart hz hf) (by rfl) T.n_isinstance (by decide +kernel) (pa_cons (pv 1) (pa_cons (pe_glob (v := V.ref (T.cs "Unfit")) (by rfl) T.g_Unfit rfl) pa_nil))))) (pw_or1 (pt_not (pt_val (pe_callB (call_isDT T.xf_BadPart T.is_BadPart hz hf) (by rfl) T.n_isinstance (by decide +kernel) (pa_cons (pv 1) (pa_cons (pe_bltn (v := .ty "ValueError") (by rfl) T.n_ValueError (by decide +kernel) rfl) pa_nil))))))))) (pss_one (ps_ret pe_non)) pss_nil)
      (pss_one (ps_ret (pe_lst (pa_cons (pe_xf T.xf_BadPart T.nw_BadPart_word hz hf (pv 1)) pa_nil)))))))), rd__law_read T.em_BadPart_BadPart T.ko_BadPart_BadSpot T.ko_BadPart_Unfit T.ko_BadPart_TValueError h⟩)
theorem ok__law_count (T : TX K mg) : FnOk Pg w K mg base CX0 1 T.a__law_count T.d__law_count ["_law_text"] (spW0 K P_lcount) :=
  okW T.cs T.F__law_count sc__law_count ln__law_count (fun ds A h cdv Ar outer sh H E hr => ⟨t__law_count K, (pss_cons (ps_if (PW.pt (pw_or (pt_not (pt_chain op_leI op_leI pe_int (pe_callB c_lenS (by rfl) T.n_len PySem.boot_len (pa_cons (pv 0) pa_nil)) pe_int)) (pw_or1 (pt_not (pt_val (pe_callB (cr_all rfl) (by rfl) T.n_all (by decide +kernel) (pa_cons (pe_lc (own := [("_law_sign", 1)]) (g := (gName 1)) (tt := tYes) rfl sc__law_count.nd (pi_str (pv 0)) (blkOk_by (own := [("_law_sign", 1)]) (N := ["_law_text", "_law_sign"]) (sc := defScope s__law_count) (by decide +kernel)) (fun _ _ _ _ _ => (pg_name (i := 1) sc__law_count.nd rfl (by first | exact Or.inl rfl | exact Or.inr rfl))) (fun _ _ _ _ _ => pts_nil) (fun _ _ _ _ _ => (pe_cmpR op_inSg (pv 1) pe_str (by rfl)))) pa_nil))))))) (pss_one (ps_ret pe_non)) pss_nil)
      (pss_one (ps_ret (pe_ifExp (PW.pt (pw_and (pt_cmpR op_eq (pe_ix ix_str (pv 0) pe_int (fun _ _ => rfl)) pe_str (nomark _)) (pw_and1 (pt_cmpR op_gtI (pe_callB c_lenS (by rfl) T.n_len PySem.boot_len (pa_cons (pv 0) pa_nil)) pe_int (nomark _))))) pe_non (pe_callTy c_intS (by rfl) T.n_int (by decide +kernel) (pa_cons (pv 0) pa_nil)))))), rd__law_count h⟩)
theorem ok__law_due (T : TX K mg) : FnOk Pg w K mg base CX0 2 T.a__law_due T.d__law_due ["_law_text"] (spW0 K P_ldue) :=
  okW T.cs T.F__law_due sc__law_due ln__law_due (fun ds A h cdv Ar outer sh H E hr => ⟨t__law_due K, (pss_cons (ps_if (pt_cmpR op_gtI (pe_countS (pv 0) pe_str) pe_int (nomark _)) (pss_one (ps_ret (pe_lst (pa_cons pe_str pa_nil)))) pss_nil)
      (pss_cons (ps_set (i := 1) sc__law_due.nd rfl (by first | exact Or.inl rfl | exact Or.inr rfl) (pe_findS (pv 0) pe_str))
      (pss_cons (ps_set (i := 2) sc__law_due.nd rfl (by first | exact Or.inl rfl | exact Or.inr rfl) (pe_ifExp (pt_cmpR op_ltI (pv 1) pe_int (nomark _)) (pv 0) (pe_slice sl_str (pv 0) po_none (po_some (pv 1)))))
      (pss_cons (ps_set (i := 3) sc__law_due.nd rfl (by first | exact Or.inl rfl | exact Or.inr rfl) (pe_ifExp (pt_cmpR op_ltI (pv 1) pe_int (nomark _)) pe_int (pe_call (ok__law_count T) (hr.mono (by decide)) (by rfl) T.g__law_count T.F__law_count.kp T.b__law_count .nil pass0 (pa_cons (pe_slice sl_str (pv 0) (po_some (pe_op op_addI (pv 1) pe_int)) po_none) pa_nil))))
      (pss_cons (ps_set (i := 4) sc__law_due.nd rfl (by first | exact Or.inl rfl | exact Or.inr rfl) (pe_cmpR op_eq (pe_slice sl_str (pv 2) po_none (po_some pe_int)) pe_str (nomark _)))
      (pss_cons (ps_set (i := 5) sc__law_due.nd rfl (by first | exact Or.inl rfl | exact Or.inr rfl) (pe_call (ok__law_count T) (hr.mono (by decide)) (by rfl) T.g__law_count T.F__law_count.kp T.b__law_count .nil pass0 (pa_cons (pe_ifExp (pt_val (pv 4)) (pe_slice sl_str (pv 2) (po_some pe_int) po_none) (pv 2)) pa_nil)))
      (pss_cons (ps_if (PW.pt (pw_or (pt_cmpR o_isN (pv 5) pe_non (nomark _)) (pw_or (pt_cmpR o_isN (pv 3) pe_non (nomark _)) (pw_or1 (PW.pt (pw_and (pt_val (pv 4)) (pw_and1 (pt_cmpR op_eq (pv 5) pe_int (nomark _))))))))) (pss_one (ps_ret (pe_lst (pa_cons pe_str pa_nil)))) pss_nil)
      (pss_cons (ps_if (PW.pt (pw_or (PW.pt (pw_and (pt_cmpR op_geI (pv 1) pe_int (nomark _)) (pw_and1 (pt_cmpR op_ltI (pv 3) pe_int (nomark _))))) (pw_or1 (pt_cmpR op_gtI (pe_call (ok__law_gcd T) (hr.mono (by decide)) (by rfl) T.g__law_gcd T.F__law_gcd.kp T.b__law_gcd .nil pass0 (pa_cons (pv 5) (pa_cons (pv 3) pa_nil))) pe_int (nomark _))))) (pss_one (ps_ret (pe_lst (pa_cons pe_str pa_nil)))) pss_nil)
      (pss_one (ps_ret (pe_tup (pa_cons (pe_ifExp (pt_val (pv 4)) (pe_un un_negI (pv 5)) (pv 5)) (pa_cons (pv 3) pa_nil))))))))))))), rd__law_due h⟩)
def t_law (K : Fg) (cs : Cs) : TS := (tSeq (tFor (iRng1 (tCons (tC (V.int 6)) tNil)) (gName 2) (tSeq (tAsg (tIf (tTest (tOp rEq (tCall (spB K P_pull) [] E0 (tCons (tVar 1) (tCons (tC (V.int 2)) tNil))) (tC (V.int 0)))) (tCall (spB K P_farPart) [] E0 (tCons (tVar 1) tNil)) (tCall (spB K P_part) [] E0 (tCons (tVar 1) tNil))) (gName 3))
  (tSeq (tIfS (tTest (tOp rEq (tCall (spB K P_pull) [] E0 (tCons (tVar 1) (tCons (tC (V.int 5)) tNil))) (tC (V.int 0)))) (tAsg (tTup (tCons (tOp rAddI (tUn rNegI (tOp rPowI (tC (V.int 10)) (tC (V.int 40)))) (tC (V.int 1))) (tCons (tOp rPowI (tC (V.int 10)) (tC (V.int 39))) tNil))) (gName 3)) tNext)
  (tSeq (tAsg (tIf (tTest (tOp rEq (tOp (rIx K) (tVar 3) (tC (V.int 1))) (tC (V.int 1)))) (tCB rStrI (tCons (tOp (rIx K) (tVar 3) (tC (V.int 0))) tNil)) (tOp rAddStr (tOp rAddStr (tCB rStrI (tCons (tOp (rIx K) (tVar 3) (tC (V.int 0))) tNil)) (tC (V.str "/"))) (tCB rStrI (tCons (tOp (rIx K) (tVar 3) (tC (V.int 1))) tNil)))) (gName 4))
  (tSeq (tIfS (tOr (tNot (tB (tCall (spP K (P_like 10)) [] E0 (tCons (tCall (spW0 K P_partText) [] E0 (tCons (tVar 3) tNil)) (tCons (tVar 4) tNil))))) (tNot (tB (tCall (spP K (P_like 10)) [] E0 (tCons (tCallSD (spW K cs P_readPart) [] (WE W0) (tCons (tVar 4) tNil)) (tCons (tVar 3) tNil)))))) (tRet (tC (V.bl false))) tNext)
  (tSeq (tAsg (tM1 (rJoin K) (tC (V.str "")) (tLc (iRng1 (tCons (tC (V.int 4)) tNil)) (gName 8) tYes (tCall (spW0 K P_lsign) [] E0 (tCons (tCall (spB K P_pull) [] E0 (tCons (tVar 1) (tCons (tC (V.int 12)) tNil))) tNil)) [8])) (gName 5))
  (tSeq (tAsg (tOp rAddStr (tOp (rIx K) (tLst (tCons (tC (V.str "9")) (tCons (tC (V.str "1/9")) (tCons (tC (V.str "-9")) (tCons (tC (V.str "0")) tNil))))) (tCall (spB K P_pull) [] E0 (tCons (tVar 1) (tCons (tC (V.int 4)) tNil)))) (tOp rMulStr (tC (V.str "9")) (tOp rAddI (tC (V.int 38)) (tCall (spB K P_pull) [] E0 (tCons (tVar 1) (tCons (tC (V.int 3)) tNil)))))) (gName 6))
  (tFor (iList K (tLst (tCons (tVar 5) (tCons (tVar 6) (tCons (tOp rAddStr (tVar 4) (tSl rSlS (tVar 5) tNoPart (tPart (tC (V.int 1))))) (tCons (tOp rAddStr (tSl rSlS (tVar 5) tNoPart (tPart (tC (V.int 1)))) (tVar 4)) tNil)))))) (gName 7) (tIfS (tNot (tB (tCall (spP K (P_like 10)) [] E0 (tCons (tCall (spW0 K P_lread) [] E0 (tCons (tVar 7) tNil)) (tCons (tCall (spW0 K P_ldue) [] E0 (tCons (tVar 7) tNil)) tNil))))) (tRet (tC (V.bl false))) tNext)))))))))
  (tRet (tC (V.bl true))))
-- slots of law: 0 _law_script, 1 _law_bag_here, 2 _law_turn, 3 _law_one, 4 _law_text, 5 _law_odd, 6 _law_long, 7 _law_other, 8 _law_at
open U.Hull
/-- fractions that are written in 40 figures -/
def Sm40 (p : Fr) : Prop := ∃ n, Gd n p ∧ p.1.natAbs < 10 ^ 40 ∧ p.2.natAbs < 10 ^ 40
theorem sm_gd {n : Nat} {p : Fr} (h : Gd n p) (hn : n ≤ 64) : Sm40 p := qt_of (by simp (disch := with_unfolding_all
  have e : (2 : Nat) ^ n ≤ 2 ^ 64 := Nat.pow_le_pow_right (by decide) hn
  have k : (2 : Nat) ^ 64 < 10 ^ 40 := by decide +kernel
  obtain ⟨a, b⟩ := h.sz
  have a : p.1.natAbs < 2 ^ n := a
  have b : p.2.natAbs < 2 ^ n := b
  exact ⟨n, h, Nat.lt_of_lt_of_le a (by omega), Nat.lt_of_lt_of_le b (by omega)⟩
  ) only [↓qt_eq])
theorem sm_big : Sm40 (-(10 ^ 40) + 1, 10 ^ 39) := by
  refine ⟨140, ?_, by decide +kernel, by decide +kernel⟩
  constructor
  all_goals first | (show _ = _; decide +kernel) | (unfold Sz Bd; decide +kernel) | decide +kernel
theorem all2_strs {β : Type} {xs : List β} {ys : List PyData} (h : All2 (fun _ y => ∃ l : List Nat, y = .str (tx l) ∧ l.length ≤ 2) xs ys) : ∃ zs : List (List Nat), ys = (zs.map tx).map PyData.str ∧ zs.length = xs.length ∧ ∀ z ∈ zs, z.length ≤ 2 := qt_of (by simp (disch := with_unfolding_all
  induction h with
  | nil => exact ⟨[], rfl, rfl, fun z hz => by cases hz⟩
  | cons h _ ih =>
    obtain ⟨l, rfl, hl⟩ := h
    obtain ⟨zs, rfl, e, q⟩ := ih
    exact ⟨l :: zs, rfl, by simp [e], fun z hz => (List.mem_cons.mp hz).elim (fun z' => by rw [z']; exact hl) (q z)⟩
  ) only [↓qt_eq])
theorem joinL_len : ∀ ps : List (List Nat), (∀ p ∈ ps, p.length ≤ 2) → (TL.joinL [] ps).length ≤ 2 * ps.length
  | [], _ => Nat.le_refl _
  | [p], h => by
    have := h p (by simp)
    show p.length ≤ _
    simpa using this
  | p :: q :: r, h => by
    have h1 := h p (by simp)
    have h2 := joinL_len (q :: r) fun x hx => h x (List.mem_cons_of_mem _ hx)
    show (p ++ ([] ++ TL.joinL [] (q :: r))).length ≤ _
    rw [List.nil_append, List.length_append, List.length_cons]
    omega
theorem sum2 : ∀ zs : List (List Nat), (∀ z ∈ zs, z.length ≤ 2) → (((zs.map tx).map (·.length)).sum : Nat) ≤ 2 * zs.length
  | [], _ => Nat.le_refl _
  | z :: zs, h => by
    have h1 := h z (by simp)
    have h2 := sum2 zs fun x hx => h x (List.mem_cons_of_mem _ hx)
    simp only [List.map_cons, List.sum_cons, List.length_cons, tx_len]
    have h2 : ((zs.map tx).map (·.length)).sum ≤ 2 * zs.length := h2
    omega
def menu4 : List Str := ["9", "1/9", "-9", "0"]
theorem menu4_len : ∀ z ∈ menu4, (TL.tl z).length ≤ 3 := by
  intro z hz
  simp only [menu4, List.mem_cons, List.not_mem_nil, or_false] at hz
  rcases hz with rfl | rfl | rfl | rfl <;> (rw [TL.tl_ofString]; decide)
theorem tx_nine : ("9" : Str) = ⟨#[57]⟩ := TL.ext_tl (by rw [TL.tl_ofString] <;> rfl)
theorem rd_law (ns : List Int) (hl : ns.length ≤ 63) : SW K cs W0 (t_law K cs) (.d (.list (ns.map PyData.int)) :: .bag :: List.replicate (9 - 2) .un) (fun o => o = .rt (.bool true)) := qt_of (by simp (disch := with_unfolding_all
  unfold t_law
  walk_at "w"
  refine forN (fun i G => ∃ e2 e3 e4 e5 e6 e7, G = [.d (.list (ns.map PyData.int)), .bag, e2, e3, e4, e5, e6, e7, .un]) ⟨_, _, _, _, _, _, rfl⟩ ?_ ?_
  rotate_left
  · rintro _ ⟨e2, e3, e4, e5, e6, e7, rfl⟩
    walk_at "w"
    rfl
  rintro i _ hi ⟨e2, e3, e4, e5, e6, e7, rfl⟩
  walk_at "s"
  refine sw_cut (fun G => ∃ p, Sm40 p ∧ G = [.d (.list (ns.map PyData.int)), .bag, .d (.int i), .d (fr p), e4, e5, e6, e7, .un]) ?_ ?_
  · walk_at "s"
    refine cnd_d (fun h => ?_) (fun h => ?_)
    · walk_at "s"
      exact ⟨_, sm_gd (by assumption) (by decide), rfl⟩
    · walk_at "s"
      exact ⟨_, sm_gd (by assumption) (by decide), rfl⟩
  rintro _ ⟨p0, hp0, rfl⟩
  refine sw_cut (fun G => ∃ p, Sm40 p ∧ G = [.d (.list (ns.map PyData.int)), .bag, .d (.int i), .d (fr p), e4, e5, e6, e7, .un]) ?_ ?_
  · walk_at "s"
    refine cnd_d (fun h => ?_) (fun h => ?_)
    · walk_at "s"
      refine ⟨by unfold CPow; decide, ?_⟩
      walk_at "s"
      refine ⟨by unfold CPow; decide, ?_⟩
      walk_at "s"
      exact ⟨(-(10 ^ 40) + 1, 10 ^ 39), sm_big, rfl⟩
    · walk_at "s"
      exact ⟨_, hp0, rfl⟩
  rintro _ ⟨p, hp, rfl⟩
  have hp' := hp
  obtain ⟨n, gp, b1, b2⟩ := hp'
  have c1 : p.1.natAbs < 10 ^ 500 := Nat.lt_of_lt_of_le b1 (Nat.pow_le_pow_right (by decide) (by decide))
  have c2 : p.2.natAbs < 10 ^ 500 := Nat.lt_of_lt_of_le b2 (Nat.pow_le_pow_right (by decide) (by decide))
  have l1 := intL_len (Nat.lt_trans c1 (Nat.pow_lt_pow_right (by decide) (show 500 < 700 by decide)))
  have l2 := intL_len (Nat.lt_trans c2 (Nat.pow_lt_pow_right (by decide) (show 500 < 700 by decide)))
  have sz : ∀ m : List Nat, m.length ≤ 5000 → (tx m).length ≤ sizeLine := fun m hm => by rw [tx_len]; exact Nat.le_trans hm (by decide)
  have sz2 : ∀ a b : List Nat, a.length + b.length ≤ 5000 → (tx a).length + (tx b).length ≤ sizeLine := fun a b hm => by rw [tx_len, tx_len]; exact Nat.le_trans hm (by decide)
  refine sw_cut (fun G => G = [.d (.list (ns.map PyData.int)), .bag, .d (.int i), .d (fr p), .d (.str (tx (partT p))), e5, e6, e7, .un]) ?_ ?_
  · unfold partT
    walk_at "s"
    refine cnd_d (fun h => ?_) (fun h => ?_)
    · rw [if_pos h]
      walk_at "s"
      refine ⟨log_small c1, ?_⟩
      rw [str_int]
      walk_at "s"
      rfl
    · rw [if_neg h]
      walk_at "s"
      refine ⟨log_small c1, ?_⟩
      rw [str_int, tx_stroke]
      walk_at "s"
      refine ⟨sz2 _ _ (by simp; omega), ?_⟩
      rw [tx_app]
      walk_at "s"
      refine ⟨log_small c2, ?_⟩
      rw [str_int]
      walk_at "s"
      refine ⟨sz2 _ _ (by simp; omega), ?_⟩
      rw [tx_app, List.append_assoc]
      walk_at "s"
      rfl
  rintro _ rfl
  have lT : (partT p).length ≤ 1500 := by
    unfold partT
    split
    · omega
    · simp; omega
  refine sw_seq ?_
  walk_at "s"
  refine ⟨p, rfl, c1, c2, ?_⟩
  walk_at "s"
  refine c_like rfl rfl ?_
  walk_at "s"
  have bk := part_back gp b1 b2
  refine ⟨partT p, rfl, by omega, fun z => (by rw [bk] at z; cases z), fun q hq => ?_⟩
  rw [bk] at hq
  cases hq
  walk_at "s"
  refine c_like rfl rfl ?_
  walk_at "s"
  refine sw_cut (fun G => ∃ o : List Nat, o.length ≤ 8 ∧ G = [.d (.list (ns.map PyData.int)), .bag, .d (.int i), .d (fr p), .d (.str (tx (partT p))), .d (.str (tx o)), e6, e7, .un]) ?_ ?_
  · walk_at "s"
    show LcI K cs W0 _ _ _ _ _ _ ((List.range 4).map fun i : Nat => PyData.int (0 + (i : Int)))
    refine lcR (fun _ y => ∃ l : List Nat, y = .str (tx l) ∧ l.length ≤ 2) (by decide) (unk1 rfl) (fun x hx => ?_) (fun ys hy => ?_)
    · walk_at "s"
      exact ⟨_, rfl, by assumption, by assumption, fun l hl => ⟨l, rfl, hl⟩⟩
    obtain ⟨zs, rfl, e4, hz⟩ := all2_strs hy
    have e4 : zs.length = 4 := e4
    have s2 := sum2 zs hz
    have jl := joinL_len (zs.map id) (by simpa using hz)
    refine ⟨_, rfl, zs.map tx, rfl, ?_, _, rfl, TL.tl (Txt.join "" (zs.map tx)), ?_, ?_⟩
    · rw [tx_none, tx_len, List.length_map]
      simp only [List.length_nil, Nat.mul_zero]
      omega
    · rw [TL.join_eq, TL.tl_join, tx_none]
      have em : (zs.map tx).map TL.tl = zs := by rw [List.map_map]; exact List.map_id'' (fun _ => rfl) zs
      rw [em]
      rw [List.map_id] at jl
      show (TL.joinL [] zs).length ≤ 8
      omega
    · rw [← tx_of]
      rfl
  rintro _ ⟨o, ho, rfl⟩
  refine sw_cut (fun G => ∃ g : List Nat, g.length ≤ 60 ∧ G = [.d (.list (ns.map PyData.int)), .bag, .d (.int i), .d (fr p), .d (.str (tx (partT p))), .d (.str (tx o)), .d (.str (tx g)), e7, .un]) ?_ ?_
  · walk_at "s"
    refine ⟨by decide, _, rfl, ?_⟩
    walk_at "s"
    rename_i v h0 h1
    obtain ⟨j, rfl⟩ := Int.eq_ofNat_of_zero_le h0
    have hj : j < menu4.length := by show j < 4; omega
    refine ⟨.str menu4[j], ?_, menu4[j], rfl, ?_⟩
    · show atI (menu4.map PyData.str) (j : Int) = _
      refine atI_nat ?_
      rw [List.getElem?_map, List.getElem?_eq_getElem hj]
      rfl
    have ml := menu4_len _ (List.getElem_mem hj)
    generalize menu4[j] = z at ml
    walk_at "s"
    refine ⟨57, by rw [tx_nine], ?_⟩
    walk_at "s"
    rename_i u g0 g1
    refine ⟨by omega, by omega, ?_⟩
    have er : repS 57 (38 + u).toNat = tx (List.replicate (38 + u).toNat 57) := rfl
    rw [er, tx_of z]
    walk_at "s"
    have lr : (List.replicate (38 + u).toNat 57).length ≤ 40 := by rw [List.length_replicate]; omega
    refine ⟨sz2 _ _ (by omega), ?_⟩
    rw [tx_app]
    refine ⟨_, rfl, TL.tl z ++ List.replicate (38 + u).toNat 57, by rw [List.length_append]; omega, rfl⟩
  rintro _ ⟨g, hg, rfl⟩
  walk_at "s"
  refine ⟨sz _ (by omega), ?_⟩
  walk_at "s"
  rw [cut_hd]
  have lo : (o.take 1).length ≤ 8 := by rw [List.length_take]; omega
  refine ⟨sz2 _ _ (by omega), ?_⟩
  rw [tx_app]
  walk_at "s"
  refine ⟨sz _ (by omega), ?_⟩
  walk_at "s"
  rw [cut_hd]
  refine ⟨sz2 _ _ (by omega), ?_⟩
  rw [tx_app]
  walk_at "s"
  refine ⟨by simp, _, rfl, ?_⟩
  have hm : ∀ x ∈ [o, g, partT p ++ o.take 1, o.take 1 ++ partT p], x.length ≤ 2000 := fun x hx => by
    simp only [List.mem_cons, List.not_mem_nil, or_false] at hx
    rcases hx with rfl | rfl | rfl | rfl
    · omega
    · omega
    · rw [List.length_append]; omega
    · rw [List.length_append]; omega
  have key : ∀ ts : List (List Nat), (∀ x ∈ ts, x.length ≤ 2000) → ForI K cs W0 (gName 7)
      (tIfS (tNot (tB (tCall (spP K (P_like 10)) [] E0 (tCons (tCall (spW0 K P_lread) [] E0 (tCons (tVar 7) tNil)) (tCons (tCall (spW0 K P_ldue) [] E0 (tCons (tVar 7) tNil)) tNil))))) (tRet (tC (V.bl false))) tNext)
      [.d (.list (ns.map PyData.int)), .bag, .d (.int i), .d (fr p), .d (.str (tx (partT p))), .d (.str (tx o)), .d (.str (tx g)), e7, .un]
      (lp (fun G => ∃ e2 e3 e4 e5 e6 e7, G = [.d (.list (ns.map PyData.int)), .bag, e2, e3, e4, e5, e6, e7, .un]) (sq K cs W0 (tRet (tC (V.bl true))) fun o => o = .rt (.bool true)))
      (ts.map fun l => PyData.str (tx l)) := fun ts hts => by
    refine forP (fun _ G => ∃ e7, G = [.d (.list (ns.map PyData.int)), .bag, .d (.int i), .d (fr p), .d (.str (tx (partT p))), .d (.str (tx o)), .d (.str (tx g)), e7, .un]) ⟨_, rfl⟩ ?_ ?_
    · rintro pre x post _ e ⟨e7, rfl⟩
      have hx := hts x (by rw [e]; simp)
      walk_at "s"
      refine ⟨x, rfl, by omega, ?_⟩
      walk_at "s"
      refine ⟨x, rfl, by omega, ?_⟩
      walk_at "s"
      have ok : okD 9 (toldP (partL x 40)) = true := by
        cases partL x 40 with
        | none => exact okD_list (n := 8) (by decide) (fun y hy => by (simp at hy; rw [hy]; rfl))
        | some q => exact okD_tup (n := 8) (by simp) (fun y hy => by (simp at hy; rcases hy with rfl | rfl <;> exact okD_i _ _))
      refine c_like rfl ok ?_
      walk_at "s"
      exact ⟨_, rfl⟩
    · rintro _ ⟨e7, rfl⟩
      exact ⟨_, _, _, _, _, _, rfl⟩
  exact key _ hm
  ) only [↓qt_eq])
theorem ok_law (T : TX K mg) {f : Addr} {fd : FuncData} (F : Fun K "law" "law" s_law f fd) : FnOk Pg w K mg base CX0 11 f fd ["_law_script"] (spP K PLaw) :=
  okLawW T.cs F sc_law rfl (by decide) (fun ns hl cdv A outer sh H E hr => ⟨t_law K T.cs, (pss_cons (ps_set (i := 1) sc_law.nd rfl (by first | exact Or.inl rfl | exact Or.inr rfl) (pe_call (ok__law_bag T) (hr.mono (by decide)) (by rfl) T.g__law_bag T.F__law_bag.kp T.b__law_bag .nil pass0 (pa_cons (pv 0) pa_nil)))
      (pss_cons (ps_for PassesOwn.never rfl (pi_range1 (by rfl) T.n_range (pa_cons pe_int pa_nil)) (pg_name (i := 2) sc_law.nd rfl (by first | exact Or.inl rfl | exact Or.inr rfl)) (pss_cons (ps_set (i := 3) sc_law.nd rfl (by first | exact Or.inl rfl | exact Or.inr rfl) (pe_ifExp (pt_cmpR op_eq (pe_call (ok__law_pull T) (hr.mono (by decide)) (by rfl) T.g__law_pull T.F__law_pull.kp T.b__law_pull .nil pass0 (pa_cons (pv 1) (pa_cons pe_int pa_nil))) pe_int (nomark _)) (pe_call (ok__law_far_part T) (hr.mono (by decide)) (by rfl) T.g__law_far_part T.F__law_far_part.kp T.b__law_far_part .nil pass0 (pa_cons (pv 1) pa_nil)) (pe_call (ok__law_part T) (hr.mono (by decide)) (by rfl) T.g__law_part T.F__law_part.kp T.b__law_part .nil pass0 (pa_cons (pv 1) pa_nil))))
      (pss_cons (ps_if (pt_cmpR op_eq (pe_call (ok__law_pull T) (hr.mono (by decide)) (by rfl) T.g__law_pull T.F__law_pull.kp T.b__law_pull .nil pass0 (pa_cons (pv 1) (pa_cons pe_int pa_nil))) pe_int (nomark _)) (pss_one (ps_set (i := 3) sc_law.nd rfl (by first | exact Or.inl rfl | exact Or.inr rfl) (pe_tup (pa_cons (pe_op op_addI (pe_un un_negI (pe_op op_powI pe_int pe_int)) pe_int) (pa_cons (pe_op op_powI pe_int pe_int) pa_nil))))) pss_nil)
      (pss_cons (ps_set (i := 4) sc_law.nd rfl (by first | exact Or.inl rfl | exact Or.inr rfl) (pe_ifExp (pt_cmpR op_eq (pe_ix ix_seq (pv 3) pe_int (fun _ _ => rfl)) pe_int (nomark _)) (pe_callTy c_strI (by rfl) T.n_str (by decide +kernel) (pa_cons (pe_ix ix_seq (pv 3) pe_int (fun _ _ => rfl)) pa_nil)) (pe_op op_addStr (pe_op op_addStr (pe_callTy c_strI (by rfl) T.n_str (by decide +kernel) (pa_cons (pe_ix ix_seq (pv 3) pe_int (fun _ _ => rfl)) pa_nil)) pe_str) (pe_callTy c_strI (by rfl) T.n_str (by decide +kernel) (pa_cons (pe_ix ix_seq (pv 3) pe_int (fun _ _ => rfl)) pa_nil)))))
      (pss_cons (ps_if (PW.pt (pw_or (pt_not (pt_val (pe_call (ok__law_like T 10) (hr.mono (by decide)) (by rfl) T.g__law_like T.F__law_like.kp T.b__law_like .nil pass0 (pa_cons (pe_call (ok_part_text T) (hr.mono (by decide)) (by rfl) T.g_part_text T.F_part_text.kp T.b_part_text .nil pass0 (pa_cons (pv 3) pa_nil)) (pa_cons (pv 4) pa_nil))))) (pw_or1 (pt_not (pt_val (pe_call (ok__law_like T 10) (hr.mono (by decide)) (by rfl) T.g__law_like T.F__law_like.kp T.b__law_like .nil pass0 (pa_cons (pe_callSD (ok_read_part T) (hr.mono (by decide)) (by rfl) T.g_read_part T.F_read_part.kp T.b_read_part .nil (fun σ => passAt takes0 σ) (pa_cons (pv 4) pa_nil)) (pa_cons (pv 3) pa_nil)))))))) (pss_one (ps_ret pe_bl)) pss_nil)
      (pss_cons (ps_set (i := 5) sc_law.nd rfl (by first | exact Or.inl rfl | exact Or.inr rfl) (pe_joinS pe_str (pe_lc (own := [("_law_at", 8)]) (g := (gName 8)) (tt := tYes) rfl sc_law.nd (pi_range1 (by rfl) T.n_range (pa_cons pe_int pa_nil)) (blkOk_by (own := [("_law_at", 8)]) (N := ["_law_script", "_law_bag_here", "_law_turn", "_law_one", "_law_text", "_law_odd", "_law_long", "_law_other", "_law_at"]) (sc := defScope s_law) (by decide +kernel)) (fun _ _ _ _ _ => (pg_name (i := 8) sc_law.nd rfl (by first | exact Or.inl rfl | exact Or.inr rfl))) (fun _ _ _ _ _ => pts_nil) (fun _ _ _ _ _ => (pe_call (ok__law_sign_of T) (hr.mono (by decide)) (by rfl) T.g__law_sign_of T.F__law_sign_of.kp T.b__law_sign_of .nil pass0 (pa_cons (pe_call (ok__law_pull T) (hr.mono (by decide)) (by rfl) T.g__law_pull T.F__law_pull.kp T.b__law_pull .nil pass0 (pa_cons (pv 1) (pa_cons pe_int pa_nil))) pa_nil))))))
      (pss_cons (ps_set (i := 6) sc_law.nd rfl (by first | exact Or.inl rfl | exact Or.inr rfl) (pe_op op_addStr (pe_ix ix_seq (pe_lst (pa_cons pe_str (pa_cons pe_str (pa_cons pe_str (pa_cons pe_str pa_nil))))) (pe_call (ok__law_pull T) (hr.mono (by decide)) (by rfl) T.g__law_pull T.F__law_pull.kp T.b__law_pull .nil pass0 (pa_cons (pv 1) (pa_cons pe_int pa_nil))) (fun _ _ => rfl)) (pe_op op_mulStr pe_str (pe_op op_addI pe_int (pe_call (ok__law_pull T) (hr.mono (by decide)) (by rfl) T.g__law_pull T.F__law_pull.kp T.b__law_pull .nil pass0 (pa_cons (pv 1) (pa_cons pe_int pa_nil)))))))
      (pss_one (ps_for PassesOwn.never rfl (pi_list (pe_lst (pa_cons (pv 5) (pa_cons (pv 6) (pa_cons (pe_op op_addStr (pv 4) (pe_slice sl_str (pv 5) po_none (po_some pe_int))) (pa_cons (pe_op op_addStr (pe_slice sl_str (pv 5) po_none (po_some pe_int)) (pv 4)) pa_nil)))))) (pg_name (i := 7) sc_law.nd rfl (by first | exact Or.inl rfl | exact Or.inr rfl)) (pss_one (ps_if (pt_not (pt_val (pe_call (ok__law_like T 10) (hr.mono (by decide)) (by rfl) T.g__law_like T.F__law_like.kp T.b__law_like .nil pass0 (pa_cons (pe_call (ok__law_read T) (hr.mono (by decide)) (by rfl) T.g__law_read T.F__law_read.kp T.b__law_read .nil pass0 (pa_cons (pv 7) pa_nil)) (pa_cons (pe_call (ok__law_due T) (hr.mono (by decide)) (by rfl) T.g__law_due T.F__law_due.kp T.b__law_due .nil pass0 (pa_cons (pv 7) pa_nil)) pa_nil))))) (pss_one (ps_ret pe_bl)) pss_nil)))))))))))
      (pss_one (ps_ret pe_bl)))), rd_law ns hl⟩)
end
theorem all_mk {l : PySem.W.OpenLaw} {w : World} {K : PySem.W.Frag} {h : Heap} {mg : Str → Option Value} {fa f0 f1 f2 f3 f4 f5 f6 f7 f8 f9 f10 f11 f12 f13 f14 f15 f16 f17 f18 : Addr} (X : K.In h) (G : h.Ns mainGlobals mg) (hfa : mg "law" = some (.ref fa))
    {od0 an0 : Option Addr} {sl0 : Array (Option Value)} {oc0 kV0 dc0 pm0 cd0 ct0 : Value}
    {od1 an1 : Option Addr} {sl1 : Array (Option Value)} {oc1 kV1 dc1 pm1 cd1 ct1 : Value}
    {od2 an2 : Option Addr} {sl2 : Array (Option Value)} {oc2 kV2 dc2 pm2 cd2 ct2 : Value}
    {od3 an3 : Option Addr} {sl3 : Array (Option Value)} {oc3 kV3 dc3 pm3 cd3 ct3 : Value}
    {od4 an4 : Option Addr} {sl4 : Array (Option Value)} {oc4 kV4 dc4 pm4 cd4 ct4 : Value}
    {od5 an5 : Option Addr} {sl5 : Array (Option Value)} {oc5 kV5 dc5 pm5 cd5 ct5 : Value}
    {od6 an6 : Option Addr} {sl6 : Array (Option Value)} {oc6 kV6 dc6 pm6 cd6 ct6 : Value}
    {od7 an7 : Option Addr} {sl7 : Array (Option Value)} {oc7 kV7 dc7 pm7 cd7 ct7 : Value}
    {od8 an8 : Option Addr} {sl8 : Array (Option Value)} {oc8 kV8 dc8 pm8 cd8 ct8 : Value}
    {od9 an9 : Option Addr} {sl9 : Array (Option Value)} {oc9 kV9 dc9 pm9 cd9 ct9 : Value}
    {od10 an10 : Option Addr} {sl10 : Array (Option Value)} {oc10 kV10 dc10 pm10 cd10 ct10 : Value}
    {od11 an11 : Option Addr} {sl11 : Array (Option Value)} {oc11 dc11 pm11 cd11 ct11 : Value}
    {kD11 : Addr} {tk11_0 : Tok}
    {od12 an12 : Option Addr} {sl12 : Array (Option Value)} {oc12 kV12 dc12 pm12 cd12 ct12 : Value}
    {od13 an13 : Option Addr} {sl13 : Array (Option Value)} {oc13 dc13 pm13 cd13 ct13 : Value}
    {kD13 : Addr} {tk13_0 : Tok}
    {od14 an14 : Option Addr} {sl14 : Array (Option Value)} {oc14 kV14 dc14 pm14 cd14 ct14 : Value}
    {od15 an15 : Option Addr} {sl15 : Array (Option Value)} {oc15 kV15 dc15 pm15 cd15 ct15 : Value}
    {od16 an16 : Option Addr} {sl16 : Array (Option Value)} {oc16 kV16 dc16 pm16 cd16 ct16 : Value}
    {od17 an17 : Option Addr} {sl17 : Array (Option Value)} {oc17 kV17 dc17 pm17 cd17 ct17 : Value}
    {od18 an18 : Option Addr} {sl18 : Array (Option Value)} {oc18 kV18 dc18 pm18 cd18 ct18 : Value}
    {ca0 ci0 : Addr} {cod0 can0 : Option Addr} {csl0 : Array (Option Value)} {coc0 ckV0 cdc0 cpm0 ccd0 cct0 : Value}
    {cT0 : Addr} {cot0 : Value} {codt0 : Option Addr} {cnt0 : Nat} {cslt0 : Array (Option Value)} {ctk0_0 : Tok}
    {ca1 ci1 : Addr} {cod1 can1 : Option Addr} {csl1 : Array (Option Value)} {coc1 ckV1 cdc1 cpm1 ccd1 cct1 : Value}
    {ca2 ci2 : Addr} {cod2 can2 : Option Addr} {csl2 : Array (Option Value)} {coc2 ckV2 cdc2 cpm2 ccd2 cct2 : Value}
    (a0 : PySem.W.nsIn K mainGlobals "_law_bag" = some (some (.ref f0))) (l0 : K.lookup f0 = some ⟨oc0, od0, .func (PySem.W.fnOf "_law_bag" "_law_bag" (defArgs s__law_bag) (defBody s__law_bag) (defScope s__law_bag) .none kV0 dc0 pm0 an0 cd0 ct0), sl0⟩) (c0 : PySem.W.codeIn K cd0 "_law_bag" = true) (k0 : PySem.W.keepIn K (.ref f0) = true)
    (a1 : PySem.W.nsIn K mainGlobals "_law_gcd" = some (some (.ref f1))) (l1 : K.lookup f1 = some ⟨oc1, od1, .func (PySem.W.fnOf "_law_gcd" "_law_gcd" (defArgs s__law_gcd) (defBody s__law_gcd) (defScope s__law_gcd) .none kV1 dc1 pm1 an1 cd1 ct1), sl1⟩) (c1 : PySem.W.codeIn K cd1 "_law_gcd" = true) (k1 : PySem.W.keepIn K (.ref f1) = true)
    (a2 : PySem.W.nsIn K mainGlobals "_law_frac" = some (some (.ref f2))) (l2 : K.lookup f2 = some ⟨oc2, od2, .func (PySem.W.fnOf "_law_frac" "_law_frac" (defArgs s__law_frac) (defBody s__law_frac) (defScope s__law_frac) .none kV2 dc2 pm2 an2 cd2 ct2), sl2⟩) (c2 : PySem.W.codeIn K cd2 "_law_frac" = true) (k2 : PySem.W.keepIn K (.ref f2) = true)
    (a3 : PySem.W.nsIn K mainGlobals "_law_pull" = some (some (.ref f3))) (l3 : K.lookup f3 = some ⟨oc3, od3, .func (PySem.W.fnOf "_law_pull" "_law_pull" (defArgs s__law_pull) (defBody s__law_pull) (defScope s__law_pull) .none kV3 dc3 pm3 an3 cd3 ct3), sl3⟩) (c3 : PySem.W.codeIn K cd3 "_law_pull" = true) (k3 : PySem.W.keepIn K (.ref f3) = true)
    (a4 : PySem.W.nsIn K mainGlobals "_law_far" = some (some (.ref f4))) (l4 : K.lookup f4 = some ⟨oc4, od4, .func (PySem.W.fnOf "_law_far" "_law_far" (defArgs s__law_far) (defBody s__law_far) (defScope s__law_far) .none kV4 dc4 pm4 an4 cd4 ct4), sl4⟩) (c4 : PySem.W.codeIn K cd4 "_law_far" = true) (k4 : PySem.W.keepIn K (.ref f4) = true)
    (a5 : PySem.W.nsIn K mainGlobals "_law_far_part" = some (some (.ref f5))) (l5 : K.lookup f5 = some ⟨oc5, od5, .func (PySem.W.fnOf "_law_far_part" "_law_far_part" (defArgs s__law_far_part) (defBody s__law_far_part) (defScope s__law_far_part) .none kV5 dc5 pm5 an5 cd5 ct5), sl5⟩) (c5 : PySem.W.codeIn K cd5 "_law_far_part" = true) (k5 : PySem.W.keepIn K (.ref f5) = true)
    (a6 : PySem.W.nsIn K mainGlobals "_law_part" = some (some (.ref f6))) (l6 : K.lookup f6 = some ⟨oc6, od6, .func (PySem.W.fnOf "_law_part" "_law_part" (defArgs s__law_part) (defBody s__law_part) (defScope s__law_part) .none kV6 dc6 pm6 an6 cd6 ct6), sl6⟩) (c6 : PySem.W.codeIn K cd6 "_law_part" = true) (k6 : PySem.W.keepIn K (.ref f6) = true)
    (a7 : PySem.W.nsIn K mainGlobals "_law_like" = some (some (.ref f7))) (l7 : K.lookup f7 = some ⟨oc7, od7, .func (PySem.W.fnOf "_law_like" "_law_like" (defArgs s__law_like) (defBody s__law_like) (defScope s__law_like) .none kV7 dc7 pm7 an7 cd7 ct7), sl7⟩) (c7 : PySem.W.codeIn K cd7 "_law_like" = true) (k7 : PySem.W.keepIn K (.ref f7) = true)
    (a8 : PySem.W.nsIn K mainGlobals "_law_sign_of" = some (some (.ref f8))) (l8 : K.lookup f8 = some ⟨oc8, od8, .func (PySem.W.fnOf "_law_sign_of" "_law_sign_of" (defArgs s__law_sign_of) (defBody s__law_sign_of) (defScope s__law_sign_of) .none kV8 dc8 pm8 an8 cd8 ct8), sl8⟩) (c8 : PySem.W.codeIn K cd8 "_law_sign_of" = true) (k8 : PySem.W.keepIn K (.ref f8) = true)
    (a9 : PySem.W.nsIn K mainGlobals "part_text" = some (some (.ref f9))) (l9 : K.lookup f9 = some ⟨oc9, od9, .func (PySem.W.fnOf "part_text" "part_text" (defArgs s_part_text) (defBody s_part_text) (defScope s_part_text) .none kV9 dc9 pm9 an9 cd9 ct9), sl9⟩) (c9 : PySem.W.codeIn K cd9 "part_text" = true) (k9 : PySem.W.keepIn K (.ref f9) = true)
    (a10 : PySem.W.nsIn K mainGlobals "figures_of" = some (some (.ref f10))) (l10 : K.lookup f10 = some ⟨oc10, od10, .func (PySem.W.fnOf "figures_of" "figures_of" (defArgs s_figures_of) (defBody s_figures_of) (defScope s_figures_of) .none kV10 dc10 pm10 an10 cd10 ct10), sl10⟩) (c10 : PySem.W.codeIn K cd10 "figures_of" = true) (k10 : PySem.W.keepIn K (.ref f10) = true)
    (a11 : PySem.W.nsIn K mainGlobals "whole_in" = some (some (.ref f11))) (l11 : K.lookup f11 = some ⟨oc11, od11, .func (PySem.W.fnOf "whole_in" "whole_in" (defArgs s_whole_in) (defBody s_whole_in) (defScope s_whole_in) .none (.ref kD11) dc11 pm11 an11 cd11 ct11), sl11⟩) (c11 : PySem.W.codeIn K cd11 "whole_in" = true) (k11 : PySem.W.keepIn K (.ref f11) = true)
    (t11_0 : PySem.W.nsIn K kD11 "most" = some (some (Value.int 40 tk11_0)))
    (a12 : PySem.W.nsIn K mainGlobals "shared" = some (some (.ref f12))) (l12 : K.lookup f12 = some ⟨oc12, od12, .func (PySem.W.fnOf "shared" "shared" (defArgs s_shared) (defBody s_shared) (defScope s_shared) .none kV12 dc12 pm12 an12 cd12 ct12), sl12⟩) (c12 : PySem.W.codeIn K cd12 "shared" = true) (k12 : PySem.W.keepIn K (.ref f12) = true)
    (a13 : PySem.W.nsIn K mainGlobals "part_in" = some (some (.ref f13))) (l13 : K.lookup f13 = some ⟨oc13, od13, .func (PySem.W.fnOf "part_in" "part_in" (defArgs s_part_in) (defBody s_part_in) (defScope s_part_in) .none (.ref kD13) dc13 pm13 an13 cd13 ct13), sl13⟩) (c13 : PySem.W.codeIn K cd13 "part_in" = true) (k13 : PySem.W.keepIn K (.ref f13) = true)
    (t13_0 : PySem.W.nsIn K kD13 "most" = some (some (Value.int 40 tk13_0)))
    (a14 : PySem.W.nsIn K mainGlobals "read_part" = some (some (.ref f14))) (l14 : K.lookup f14 = some ⟨oc14, od14, .func (PySem.W.fnOf "read_part" "read_part" (defArgs s_read_part) (defBody s_read_part) (defScope s_read_part) .none kV14 dc14 pm14 an14 cd14 ct14), sl14⟩) (c14 : PySem.W.codeIn K cd14 "read_part" = true) (k14 : PySem.W.keepIn K (.ref f14) = true)
    (a15 : PySem.W.nsIn K mainGlobals "_law_read" = some (some (.ref f15))) (l15 : K.lookup f15 = some ⟨oc15, od15, .func (PySem.W.fnOf "_law_read" "_law_read" (defArgs s__law_read) (defBody s__law_read) (defScope s__law_read) .none kV15 dc15 pm15 an15 cd15 ct15), sl15⟩) (c15 : PySem.W.codeIn K cd15 "_law_read" = true) (k15 : PySem.W.keepIn K (.ref f15) = true)
    (a16 : PySem.W.nsIn K mainGlobals "_law_count" = some (some (.ref f16))) (l16 : K.lookup f16 = some ⟨oc16, od16, .func (PySem.W.fnOf "_law_count" "_law_count" (defArgs s__law_count) (defBody s__law_count) (defScope s__law_count) .none kV16 dc16 pm16 an16 cd16 ct16), sl16⟩) (c16 : PySem.W.codeIn K cd16 "_law_count" = true) (k16 : PySem.W.keepIn K (.ref f16) = true)
    (a17 : PySem.W.nsIn K mainGlobals "_law_due" = some (some (.ref f17))) (l17 : K.lookup f17 = some ⟨oc17, od17, .func (PySem.W.fnOf "_law_due" "_law_due" (defArgs s__law_due) (defBody s__law_due) (defScope s__law_due) .none kV17 dc17 pm17 an17 cd17 ct17), sl17⟩) (c17 : PySem.W.codeIn K cd17 "_law_due" = true) (k17 : PySem.W.keepIn K (.ref f17) = true)
    (a18 : PySem.W.nsIn K mainGlobals "law" = some (some (.ref f18))) (l18 : K.lookup f18 = some ⟨oc18, od18, .func (PySem.W.fnOf "law" "law" (defArgs s_law) (defBody s_law) (defScope s_law) .none kV18 dc18 pm18 an18 cd18 ct18), sl18⟩) (c18 : PySem.W.codeIn K cd18 "law" = true) (k18 : PySem.W.keepIn K (.ref f18) = true)
    (y0g : PySem.W.nsIn K mainGlobals "Unfit" = some (some (.ref ca0)))
    (y0o : PySem.W.excOver K ca0 [.type "ValueError", .type "Exception", .type "BaseException", .type "object"] = true)
    (y0m : PySem.W.excInitIn K ca0 [.type "ValueError", .type "Exception", .type "BaseException", .type "object"] "ValueError.__new__" = true)
    (y0h : PySem.W.hasDictIn K ca0 = true)
    (y0s : PySem.W.findIn K (.ref ca0) "__setattr__" = some (some (.builtin "object.__setattr__")))
    (y0x : PySem.W.subIn K (.ref ca0) (.type "BaseException") = some true)
    (y0t : PySem.W.typeIn K (.ref ca0) = some (.type "type"))
    (y0k : PySem.W.keepIn K (.ref ca0) = true)
    (y0i : PySem.W.findIn K (.ref ca0) "__init__" = some (some (.ref ci0)))
    (y0f : PySem.W.typeIn K (.ref ci0) = some (.type "function"))
    (y0l : K.lookup ci0 = some ⟨coc0, cod0, .func (PySem.W.fnOf "__init__" "Unfit.__init__" (defArgs si_Unfit) (defBody si_Unfit) (defScope si_Unfit) (.ref cT0) ckV0 cdc0 cpm0 can0 ccd0 cct0), csl0⟩)
    (y0c : PySem.W.codeIn K ccd0 "Unfit.__init__" = true)
    (y0p : PySem.W.keepIn K (.ref ci0) = true)
    (y0a : PySem.W.findIn K (.ref ca0) "__getattribute__" = some (some (.builtin "BaseException.__getattribute__")))
    (y0b : PySem.W.findIn K (.ref ca0) "__getattr__" = some none)
    (y0n_word : PySem.W.findIn K (.ref ca0) "word" = some none)
    (y0r : PySem.W.readsIn K ca0 (.type "type") = true)
    (y0q : PySem.W.specialIn K (.ref ca0) "__getattribute__" = some (some (.builtin "type.__getattribute__")))
    (y0v : PySem.W.findCls K (.ref ca0) (.type "type") "__init__" = some (.val (.ref ci0)))
    (y0d : K.lookup cT0 = some ⟨cot0, codt0, .seq [Value.str "Unfit" ctk0_0].toArray cnt0, cslt0⟩)
    (y1g : PySem.W.nsIn K mainGlobals "BadPart" = some (some (.ref ca1)))
    (y1o : PySem.W.excOver K ca1 [.type "ValueError", .type "Exception", .type "BaseException", .type "object"] = true)
    (y1m : PySem.W.excInitIn K ca1 [.type "ValueError", .type "Exception", .type "BaseException", .type "object"] "ValueError.__new__" = true)
    (y1h : PySem.W.hasDictIn K ca1 = true)
    (y1s : PySem.W.findIn K (.ref ca1) "__setattr__" = some (some (.builtin "object.__setattr__")))
    (y1x : PySem.W.subIn K (.ref ca1) (.type "BaseException") = some true)
    (y1t : PySem.W.typeIn K (.ref ca1) = some (.type "type"))
    (y1k : PySem.W.keepIn K (.ref ca1) = true)
    (y1i : PySem.W.findIn K (.ref ca1) "__init__" = some (some (.ref ci1)))
    (y1f : PySem.W.typeIn K (.ref ci1) = some (.type "function"))
    (y1l : K.lookup ci1 = some ⟨coc1, cod1, .func (PySem.W.fnOf "__init__" "BadPart.__init__" (defArgs si_BadPart) (defBody si_BadPart) (defScope si_BadPart) .none ckV1 cdc1 cpm1 can1 ccd1 cct1), csl1⟩)
    (y1c : PySem.W.codeIn K ccd1 "BadPart.__init__" = true)
    (y1p : PySem.W.keepIn K (.ref ci1) = true)
    (y1a : PySem.W.findIn K (.ref ca1) "__getattribute__" = some (some (.builtin "BaseException.__getattribute__")))
    (y1b : PySem.W.findIn K (.ref ca1) "__getattr__" = some none)
    (y1n_word : PySem.W.findIn K (.ref ca1) "word" = some none)
    (y2g : PySem.W.nsIn K mainGlobals "BadSpot" = some (some (.ref ca2)))
    (y2o : PySem.W.excOver K ca2 [.type "ValueError", .type "Exception", .type "BaseException", .type "object"] = true)
    (y2m : PySem.W.excInitIn K ca2 [.type "ValueError", .type "Exception", .type "BaseException", .type "object"] "ValueError.__new__" = true)
    (y2h : PySem.W.hasDictIn K ca2 = true)
    (y2s : PySem.W.findIn K (.ref ca2) "__setattr__" = some (some (.builtin "object.__setattr__")))
    (y2x : PySem.W.subIn K (.ref ca2) (.type "BaseException") = some true)
    (y2t : PySem.W.typeIn K (.ref ca2) = some (.type "type"))
    (y2k : PySem.W.keepIn K (.ref ca2) = true)
    (y2i : PySem.W.findIn K (.ref ca2) "__init__" = some (some (.ref ci2)))
    (y2f : PySem.W.typeIn K (.ref ci2) = some (.type "function"))
    (y2l : K.lookup ci2 = some ⟨coc2, cod2, .func (PySem.W.fnOf "__init__" "BadSpot.__init__" (defArgs si_BadSpot) (defBody si_BadSpot) (defScope si_BadSpot) .none ckV2 cdc2 cpm2 can2 ccd2 cct2), csl2⟩)
    (y2c : PySem.W.codeIn K ccd2 "BadSpot.__init__" = true)
    (y2p : PySem.W.keepIn K (.ref ci2) = true)
    (y2a : PySem.W.findIn K (.ref ca2) "__getattribute__" = some (some (.builtin "BaseException.__getattribute__")))
    (y2b : PySem.W.findIn K (.ref ca2) "__getattr__" = some none)
    (y2n_word : PySem.W.findIn K (.ref ca2) "word" = some none)
    (e0 : PySem.W.subIn K (.ref ca1) (.ref ca1) = some true)
    (y1w1 : PySem.W.findIn K (.ref ca1) "__class__" = some (some (.builtin "object.__class__")))
    (y1w2 : PySem.W.specialIn K (.builtin "object.__class__") "__get__" = some (some (.builtin "getset_descriptor.__get__")))
    (y1w3 : PySem.W.takesIn K (.builtin "object.__class__") = some true)
    (y1w4 : PySem.W.mroIn K ca1 (.type "object") = some true)
    (ko0 : PySem.W.kitOne K (.ref ca1) (.ref ca2) = some false)
    (ko1 : PySem.W.kitOne K (.ref ca1) (.type "ValueError") = some true)
    (ko2 : PySem.W.kitOne K (.ref ca1) (.ref ca0) = some true)
    (z0 : PySem.W.nsIn K mainGlobals "ValueError" = some none)
    (z1 : PySem.W.nsIn K mainGlobals "abs" = some none)
    (z2 : PySem.W.nsIn K mainGlobals "all" = some none)
    (z3 : PySem.W.nsIn K mainGlobals "bool" = some none)
    (z4 : PySem.W.nsIn K mainGlobals "int" = some none)
    (z5 : PySem.W.nsIn K mainGlobals "isinstance" = some none)
    (z6 : PySem.W.nsIn K mainGlobals "len" = some none)
    (z7 : PySem.W.nsIn K mainGlobals "list" = some none)
    (z8 : PySem.W.nsIn K mainGlobals "max" = some none)
    (z9 : PySem.W.nsIn K mainGlobals "range" = some none)
    (z10 : PySem.W.nsIn K mainGlobals "str" = some none)
    (z11 : PySem.W.nsIn K mainGlobals "tuple" = some none)
    : ∃ fd : FuncData, (∀ (s : Shared) (v : Value), BindsTo s fd ⟨[v], []⟩ [("_law_script", v)]) ∧ ∀ base : Heap, K.In base → base.Ns mainGlobals mg → FnOk l.prog w K mg base CX0 11 fa fd ["_law_script"] (spP K PLaw) := qt_of (by simp (disch := with_unfolding_all
  have e := hfa.symm.trans (PySem.W.mg_of X G a18)
  cases e
  obtain ⟨cs, hc0, hc1, hc2⟩ : ∃ cs : Cs, cs "Unfit" = ca0 ∧ cs "BadPart" = ca1 ∧ cs "BadSpot" = ca2 := ⟨fun x => if x = "Unfit" then ca0 else if x = "BadPart" then ca1 else if x = "BadSpot" then ca2 else 0, by dsimp only; rw [if_pos rfl], by dsimp only; rw [if_neg (by decide), if_pos rfl], by dsimp only; rw [if_neg (by decide), if_neg (by decide), if_pos rfl]⟩
  subst hc0
  subst hc1
  subst hc2
  have FI0 := fund_mk (st := si_Unfit) (dvs := [V.str "Unfit"]) y0l y0c y0p y0d (.cons ⟨_, rfl⟩ .nil) (by simp)
  have ox0 : OxK K (cs "Unfit") := ⟨⟨_, _, _, _, PySem.F.excBase_ValueError, PySem.F.store_ValueError, y0o, y0m, y0h, y0s, y0x, y0t, y0k⟩⟩
  have bi0 := binds_all (ps := ["self", "word"]) FI0 (by simp) fun _ _ _ _ _ _ _ us its hl hl2 => match us, its, hl, hl2 with | [_, _], [_], _, _ => ⟨_, rfl, rfl⟩
  have cf0 : ClsF K cs "Unfit" ["word"] := ⟨ox0, fun n hn => by rw [List.mem_singleton.mp hn]; exact y0n_word⟩
  have FI1 := fun_mk (st := si_BadPart) y1l y1c y1p
  have ox1 : OxK K (cs "BadPart") := ⟨⟨_, _, _, _, PySem.F.excBase_ValueError, PySem.F.store_ValueError, y1o, y1m, y1h, y1s, y1x, y1t, y1k⟩⟩
  have bi1 := FI1.binds (ps := ["self"]) fun _ _ _ _ _ _ us hl => match us, hl with | [_], _ => rfl
  have cf1 : ClsF K cs "BadPart" ["word"] := ⟨ox1, fun n hn => by rw [List.mem_singleton.mp hn]; exact y1n_word⟩
  have FI2 := fun_mk (st := si_BadSpot) y2l y2c y2p
  have ox2 : OxK K (cs "BadSpot") := ⟨⟨_, _, _, _, PySem.F.excBase_ValueError, PySem.F.store_ValueError, y2o, y2m, y2h, y2s, y2x, y2t, y2k⟩⟩
  have bi2 := FI2.binds (ps := ["self"]) fun _ _ _ _ _ _ us hl => match us, hl with | [_], _ => rfl
  have cf2 : ClsF K cs "BadSpot" ["word"] := ⟨ox2, fun n hn => by rw [List.mem_singleton.mp hn]; exact y2n_word⟩
  have F0 := fun_mk (st := s__law_bag) l0 c0 k0
  have b0 := F0.binds (ps := ["_law_script"]) fun _ _ _ _ _ _ us hl => match us, hl with | [_], _ => rfl
  have F1 := fun_mk (st := s__law_gcd) l1 c1 k1
  have b1 := F1.binds (ps := ["_law_one", "_law_other"]) fun _ _ _ _ _ _ us hl => match us, hl with | [_, _], _ => rfl
  have F2 := fun_mk (st := s__law_frac) l2 c2 k2
  have b2 := F2.binds (ps := ["_law_above", "_law_below"]) fun _ _ _ _ _ _ us hl => match us, hl with | [_, _], _ => rfl
  have F3 := fun_mk (st := s__law_pull) l3 c3 k3
  have b3 := F3.binds (ps := ["_law_bag_here", "_law_size"]) fun _ _ _ _ _ _ us hl => match us, hl with | [_, _], _ => rfl
  have F4 := fun_mk (st := s__law_far) l4 c4 k4
  have b4 := F4.binds (ps := ["_law_bag_here"]) fun _ _ _ _ _ _ us hl => match us, hl with | [_], _ => rfl
  have F5 := fun_mk (st := s__law_far_part) l5 c5 k5
  have b5 := F5.binds (ps := ["_law_bag_here"]) fun _ _ _ _ _ _ us hl => match us, hl with | [_], _ => rfl
  have F6 := fun_mk (st := s__law_part) l6 c6 k6
  have b6 := F6.binds (ps := ["_law_bag_here"]) fun _ _ _ _ _ _ us hl => match us, hl with | [_], _ => rfl
  have F7 := fun_mk (st := s__law_like) l7 c7 k7
  have b7 := F7.binds (ps := ["_law_found", "_law_due_here"]) fun _ _ _ _ _ _ us hl => match us, hl with | [_, _], _ => rfl
  have F8 := fun_mk (st := s__law_sign_of) l8 c8 k8
  have b8 := F8.binds (ps := ["_law_at"]) fun _ _ _ _ _ _ us hl => match us, hl with | [_], _ => rfl
  have F9 := fun_mk (st := s_part_text) l9 c9 k9
  have b9 := F9.binds (ps := ["one"]) fun _ _ _ _ _ _ us hl => match us, hl with | [_], _ => rfl
  have F10 := fun_mk (st := s_figures_of) l10 c10 k10
  have b10 := F10.binds (ps := ["text", "most"]) fun _ _ _ _ _ _ us hl => match us, hl with | [_, _], _ => rfl
  have F11 := fundk_mk (st := s_whole_in) (kws := [("most", V.int 40)]) l11 c11 k11 (fun q hq => (List.mem_cons.mp hq).elim (fun e => by subst e; exact ⟨_, t11_0, ⟨_, rfl⟩⟩) (fun hq => by cases hq))
  obtain ⟨q11, w11, u11⟩ := F11.binds0 (ps := ["text", "most"]) 1 (by simp) rfl fun _ _ _ _ _ _ us ks hl hl2 => match us, ks, hl, hl2 with | [_], [_], _, _ => ⟨_, _, _, _, _, _, rfl, rfl, rfl⟩
  have kb11 := kbinds_all (ps := ["text", "most"]) (ks := ["most"]) (n := 1) F11 fun _ _ _ _ _ _ us ws hl hl2 => match us, ws, hl, hl2 with | [_], [_], _, _ => rfl
  have F12 := fun_mk (st := s_shared) l12 c12 k12
  have b12 := F12.binds (ps := ["one", "other"]) fun _ _ _ _ _ _ us hl => match us, hl with | [_, _], _ => rfl
  have F13 := fundk_mk (st := s_part_in) (kws := [("most", V.int 40)]) l13 c13 k13 (fun q hq => (List.mem_cons.mp hq).elim (fun e => by subst e; exact ⟨_, t13_0, ⟨_, rfl⟩⟩) (fun hq => by cases hq))
  obtain ⟨q13, w13, u13⟩ := F13.binds0 (ps := ["text", "most"]) 1 (by simp) rfl fun _ _ _ _ _ _ us ks hl hl2 => match us, ks, hl, hl2 with | [_], [_], _, _ => ⟨_, _, _, _, _, _, rfl, rfl, rfl⟩
  have kb13 := kbinds_all (ps := ["text", "most"]) (ks := ["most"]) (n := 1) F13 fun _ _ _ _ _ _ us ws hl hl2 => match us, ws, hl, hl2 with | [_], [_], _, _ => rfl
  have F14 := fun_mk (st := s_read_part) l14 c14 k14
  have b14 := F14.binds (ps := ["text"]) fun _ _ _ _ _ _ us hl => match us, hl with | [_], _ => rfl
  have F15 := fun_mk (st := s__law_read) l15 c15 k15
  have b15 := F15.binds (ps := ["_law_text"]) fun _ _ _ _ _ _ us hl => match us, hl with | [_], _ => rfl
  have F16 := fun_mk (st := s__law_count) l16 c16 k16
  have b16 := F16.binds (ps := ["_law_text"]) fun _ _ _ _ _ _ us hl => match us, hl with | [_], _ => rfl
  have F17 := fun_mk (st := s__law_due) l17 c17 k17
  have b17 := F17.binds (ps := ["_law_text"]) fun _ _ _ _ _ _ us hl => match us, hl with | [_], _ => rfl
  have F18 := fun_mk (st := s_law) l18 c18 k18
  have T : TX K mg := { cs := cs, ox_Unfit := ox0, kC_Unfit := y0k, fI_Unfit := _, dI_Unfit := _, FI_Unfit := FI0, i_Unfit := y0i, ti_Unfit := y0f, bi_Unfit := bi0, g_Unfit := PySem.W.mg_of X G y0g, xf_Unfit := ⟨y0a, y0b, y0x, y0h⟩, nw_Unfit_word := y0n_word, cf_Unfit := cf0, rd_Unfit := y0r, ga_Unfit := y0q, fc_Unfit := y0v, ox_BadPart := ox1, kC_BadPart := y1k, fI_BadPart := _, dI_BadPart := _, FI_BadPart := FI1, i_BadPart := y1i, ti_BadPart := y1f, bi_BadPart := bi1, g_BadPart := PySem.W.mg_of X G y1g, xf_BadPart := ⟨y1a, y1b, y1x, y1h⟩, nw_BadPart_word := y1n_word, cf_BadPart := cf1, ox_BadSpot := ox2, kC_BadSpot := y2k, fI_BadSpot := _, dI_BadSpot := _, FI_BadSpot := FI2, i_BadSpot := y2i, ti_BadSpot := y2f, bi_BadSpot := bi2, g_BadSpot := PySem.W.mg_of X G y2g, xf_BadSpot := ⟨y2a, y2b, y2x, y2h⟩, nw_BadSpot_word := y2n_word, cf_BadSpot := cf2, is_BadPart := ⟨y1w1, y1w2, y1w3, y1w4⟩, ko_BadPart_BadSpot := ko0, ko_BadPart_TValueError := ko1, ko_BadPart_Unfit := ko2, em_BadPart_BadPart := em_of y1x y1h y1t e0, a__law_bag := f0, d__law_bag := _, F__law_bag := F0, g__law_bag := PySem.W.mg_of X G a0, b__law_bag := b0, a__law_gcd := f1, d__law_gcd := _, F__law_gcd := F1, g__law_gcd := PySem.W.mg_of X G a1, b__law_gcd := b1, a__law_frac := f2, d__law_frac := _, F__law_frac := F2, g__law_frac := PySem.W.mg_of X G a2, b__law_frac := b2, a__law_pull := f3, d__law_pull := _, F__law_pull := F3, g__law_pull := PySem.W.mg_of X G a3, b__law_pull := b3, a__law_far := f4, d__law_far := _, F__law_far := F4, g__law_far := PySem.W.mg_of X G a4, b__law_far := b4, a__law_far_part := f5, d__law_far_part := _, F__law_far_part := F5, g__law_far_part := PySem.W.mg_of X G a5, b__law_far_part := b5, a__law_part := f6, d__law_part := _, F__law_part := F6, g__law_part := PySem.W.mg_of X G a6, b__law_part := b6, a__law_like := f7, d__law_like := _, F__law_like := F7, g__law_like := PySem.W.mg_of X G a7, b__law_like := b7, a__law_sign_of := f8, d__law_sign_of := _, F__law_sign_of := F8, g__law_sign_of := PySem.W.mg_of X G a8, b__law_sign_of := b8, a_part_text := f9, d_part_text := _, F_part_text := F9, g_part_text := PySem.W.mg_of X G a9, b_part_text := b9, a_figures_of := f10, d_figures_of := _, F_figures_of := F10, g_figures_of := PySem.W.mg_of X G a10, b_figures_of := b10, a_whole_in := f11, d_whole_in := _, F_whole_in := F11, g_whole_in := PySem.W.mg_of X G a11, kb_whole_in := kb11, e1_whole_in := q11, v1_whole_in := w11, b1_whole_in := u11, a_shared := f12, d_shared := _, F_shared := F12, g_shared := PySem.W.mg_of X G a12, b_shared := b12, a_part_in := f13, d_part_in := _, F_part_in := F13, g_part_in := PySem.W.mg_of X G a13, kb_part_in := kb13, e1_part_in := q13, v1_part_in := w13, b1_part_in := u13, a_read_part := f14, d_read_part := _, F_read_part := F14, g_read_part := PySem.W.mg_of X G a14, b_read_part := b14, a__law_read := f15, d__law_read := _, F__law_read := F15, g__law_read := PySem.W.mg_of X G a15, b__law_read := b15, a__law_count := f16, d__law_count := _, F__law_count := F16, g__law_count := PySem.W.mg_of X G a16, b__law_count := b16, a__law_due := f17, d__law_due := _, F__law_due := F17, g__law_due := PySem.W.mg_of X G a17, b__law_due := b17, n_ValueError := PySem.W.mg_none_of X G z0, n_abs := PySem.W.mg_none_of X G z1, n_all := PySem.W.mg_none_of X G z2, n_bool := PySem.W.mg_none_of X G z3, n_int := PySem.W.mg_none_of X G z4, n_isinstance := PySem.W.mg_none_of X G z5, n_len := PySem.W.mg_none_of X G z6, n_list := PySem.W.mg_none_of X G z7, n_max := PySem.W.mg_none_of X G z8, n_range := PySem.W.mg_none_of X G z9, n_str := PySem.W.mg_none_of X G z10, n_tuple := PySem.W.mg_none_of X G z11 }
  exact ⟨_, fun s v => .of_eq rfl, fun base _ _ => ok_law T F18⟩
  ) only [↓qt_eq])
end Law
end U.N
open PySem PySem.W PyProof.Rows
set_option maxHeartbeats 0 in
theorem PySem.Challenge.cw_umbrage_k05_fractions_written_and_read_holds : PySem.Challenge.rw_umbrage_k05_fractions_written_and_read.Holds := by
  refine U.head_top ?_
  k_fill
  refine L2.walk_of (l := PySem.Challenge.rw_umbrage_k05_fractions_written_and_read) (n := 63) (k := 11) (x := "_law_script") (CX := fun _ => L2.CX0) (sp := fun w => U.spP _ U.PLaw) rfl (by decide) rfl ⟨rfl, by decide, by decide⟩ (fun w h Y => PySem.W.kIn_of Y) ?F (fun _ _ a ns hl _ hS => ⟨fun _ => False, [.list (ns.map PyData.int)], .bool true, fun _ z => z.elim, .cons (.lst (U.less_none hS) (U.dpa_of_ints _)) .nil, ⟨ns, rfl, hl, rfl⟩, fun v H' _ d => by cases d; rfl⟩) (fun _ _ _ _ _ h => h)
  case F =>
    intro w mg fa h KX G hmg
    refine' U.N.Law.all_mk KX G hmg ?a0 ?l0 ?c0 ?k0 ?a1 ?l1 ?c1 ?k1 ?a2 ?l2 ?c2 ?k2 ?a3 ?l3 ?c3 ?k3 ?a4 ?l4 ?c4 ?k4 ?a5 ?l5 ?c5 ?k5 ?a6 ?l6 ?c6 ?k6 ?a7 ?l7 ?c7 ?k7 ?a8 ?l8 ?c8 ?k8 ?a9 ?l9 ?c9 ?k9 ?a10 ?l10 ?c10 ?k10 ?a11 ?l11 ?c11 ?k11 ?t11_0 ?a12 ?l12 ?c12 ?k12 ?a13 ?l13 ?c13 ?k13 ?t13_0 ?a14 ?l14 ?c14 ?k14 ?a15 ?l15 ?c15 ?k15 ?a16 ?l16 ?c16 ?k16 ?a17 ?l17 ?c17 ?k17 ?a18 ?l18 ?c18 ?k18 ?y0g ?y0o ?y0m ?y0h ?y0s ?y0x ?y0t ?y0k ?y0i ?y0f ?y0l ?y0c ?y0p ?y0a ?y0b ?y0n_word ?y0r ?y0q ?y0v ?y0d ?y1g ?y1o ?y1m ?y1h ?y1s ?y1x ?y1t ?y1k ?y1i ?y1f ?y1l ?y1c ?y1p ?y1a ?y1b ?y1n_word ?y2g ?y2o ?y2m ?y2h ?y2s ?y2x ?y2t ?y2k ?y2i ?y2f ?y2l ?y2c ?y2p ?y2a ?y2b ?y2n_word ?e0 ?y1w1 ?y1w2 ?y1w3 ?y1w4 ?ko0 ?ko1 ?ko2 ?z0 ?z1 ?z2 ?z3 ?z4 ?z5 ?z6 ?z7 ?z8 ?z9 ?z10 ?z11
    (case a0 => k_is); (case l0 => k_is); (case c0 => k_is); (case k0 => k_is); (case a1 => k_is); (case l1 => k_is); (case c1 => k_is); (case k1 => k_is); (case a2 => k_is); (case l2 => k_is); (case c2 => k_is); (case k2 => k_is); (case a3 => k_is); (case l3 => k_is); (case c3 => k_is); (case k3 => k_is); (case a4 => k_is); (case l4 => k_is); (case c4 => k_is); (case k4 => k_is); (case a5 => k_is); (case l5 => k_is); (case c5 => k_is); (case k5 => k_is); (case a6 => k_is); (case l6 => k_is); (case c6 => k_is); (case k6 => k_is); (case a7 => k_is); (case l7 => k_is); (case c7 => k_is); (case k7 => k_is); (case a8 => k_is); (case l8 => k_is); (case c8 => k_is); (case k8 => k_is); (case a9 => k_is); (case l9 => k_is); (case c9 => k_is); (case k9 => k_is); (case a10 => k_is); (case l10 => k_is); (case c10 => k_is); (case k10 => k_is); (case a11 => k_is); (case l11 => k_is); (case c11 => k_is); (case k11 => k_is); (case t11_0 => k_is); (case a12 => k_is); (case l12 => k_is); (case c12 => k_is); (case k12 => k_is); (case a13 => k_is); (case l13 => k_is); (case c13 => k_is); (case k13 => k_is); (case t13_0 => k_is); (case a14 => k_is); (case l14 => k_is); (case c14 => k_is); (case k14 => k_is); (case a15 => k_is); (case l15 => k_is); (case c15 => k_is); (case k15 => k_is); (case a16 => k_is); (case l16 => k_is); (case c16 => k_is); (case k16 => k_is); (case a17 => k_is); (case l17 => k_is); (case c17 => k_is); (case k17 => k_is); (case a18 => k_is); (case l18 => k_is); (case c18 => k_is); (case k18 => k_is); (case y0g => k_is); (case y0o => kx_is); (case y0m => kx_is); (case y0h => k_is); (case y0s => k_is); (case y0x => k_is); (case y0t => k_is); (case y0k => k_is); (case y0i => k_is); (case y0f => k_is); (case y0l => k_is); (case y0c => k_is); (case y0p => k_is); (case y0a => k_is); (case y0b => k_is); (case y0n_word => k_is); (case y0r => k_is); (case y0q => k_is); (case y0v => k_is); (case y0d => k_is); (case y1g => k_is); (case y1o => kx_is); (case y1m => kx_is); (case y1h => k_is); (case y1s => k_is); (case y1x => k_is); (case y1t => k_is); (case y1k => k_is); (case y1i => k_is); (case y1f => k_is); (case y1l => k_is); (case y1c => k_is); (case y1p => k_is); (case y1a => k_is); (case y1b => k_is); (case y1n_word => k_is); (case y2g => k_is); (case y2o => kx_is); (case y2m => kx_is); (case y2h => k_is); (case y2s => k_is); (case y2x => k_is); (case y2t => k_is); (case y2k => k_is); (case y2i => k_is); (case y2f => k_is); (case y2l => k_is); (case y2c => k_is); (case y2p => k_is); (case y2a => k_is); (case y2b => k_is); (case y2n_word => k_is); (case e0 => k_is); (case y1w1 => k_is); (case y1w2 => k_is); (case y1w3 => k_is); (case y1w4 => k_is); (case ko0 => kit_is); (case ko1 => kit_is); (case ko2 => kit_is); (case z0 => k_is); (case z1 => k_is); (case z2 => k_is); (case z3 => k_is); (case z4 => k_is); (case z5 => k_is); (case z6 => k_is); (case z7 => k_is); (case z8 => k_is); (case z9 => k_is); (case z10 => k_is); (case z11 => k_is)
