import PyProof.Rows.All
import Wide.All
import OpenK.AllK
import Wide.FinOn
import HandS.ForMost
import HandS.ForExc
import HandS.Wide
import HandS.IsInst
import HandS.Evl
import HandS.Defaults
import HandS.TupAny
import HandS.Zip
import HandS.Style
import HandS.ExcInit
import HandS.ExcField
import KE.KExcInit
import HandS.CallSlots
import HandS.ExcIs
import KE.KExcLine
import KE.KUnpackStar
import HandS.SortKw
import KE.GoesEnum
import KE.KUnpack
import HandS.Lambda
import KE.KDictKeyed
import KE.KDictWalk
import HandS.DictComp
import KE.SortData
import KE.KDictSum
import HandS.Conv
import PyProof.Transfer
import HandS.Deep
import KE.KExcIs
import KE.KIsAll
import HandS.IterVal
import HandS.TupSets
import HandS.More
import HandS.Text
import HandS.FStr
import HandS.Head2
import KE.KNestM
import PySem.Challenge.RW_umbrage_k54_parts_and_rooms
def Qt (p : Prop) : Prop := p
theorem qt_eq (p : Prop) (h : p) : Qt p = True := eq_true h
theorem qt_of {p : Prop} (h : Qt p) : p := h
set_option Elab.async false
set_option linter.all false
set_option maxRecDepth 100000
set_option maxHeartbeats 4000000
namespace U
open PySem PySem.W PyProof.Rows
theorem hob_k {K : Params → Frag} {as : List Addr} {e : ∀ P, as = (K P).map (·.1)} (s : SharedT) : as.map (HandSHeadRun.getT s) = (kHook K as e).obs s.abs := List.map_congr_left fun a _ => HandSHeadRun.getT_eq s a
theorem hob_km {K : Params → Frag} {as : List Addr} {e : ∀ P, as = (K P).map (·.1)} {ts : List Addr} (s : SharedT) : (as.map (HandSHeadRun.getT s), ts.map (HandSHeadRun.getT s)) = (kmHook K as e ts).obs s.abs := Prod.ext (List.map_congr_left fun a _ => HandSHeadRun.getT_eq s a) (List.map_congr_left fun a _ => HandSHeadRun.getT_eq s a)
def loose : List PySem.Str := (["Unfit", "OtherRoom", "Missing", "NoName", "inner_of", "row_of", "parts_of", "names_in", "room_of", "rows_of", "_law_bag", "_law_pull", "_law_like", "_law_gcd", "_law_frac", "_law_part", "_law_whole_part", "_law_map", "_law_entry", "_law_tree", "_law_inner", "_law_fit_tree", "_law_unit", "_law_parts", "_law_row", "_law_rank", "_law_told"] : List PySem.Str)
set_option maxHeartbeats 0 in
local macro_rules | `(tactic| o_head $H) => `(tactic| (refine HandSHeadRun.head_any (r := (OpenLaw.row PySem.Challenge.rw_umbrage_k54_parts_and_rooms)) (q := view (OpenLaw.row PySem.Challenge.rw_umbrage_k54_parts_and_rooms).prog [31]) (H := $H) (M := 1750) (loose := U.loose) (d := HandSHeadRun.topDef (OpenLaw.row PySem.Challenge.rw_umbrage_k54_parts_and_rooms).prog 31) (kwd := []) (fun s => by first | exact U.hob_k s | exact U.hob_km s) (by kernel_rfl) (fun s => by kernel_rfl) ?hrun (by kernel_rfl) (by kernel_rfl) (by kernel_rfl) (by rfl) (by first | assumption | decide +kernel) (by decide +kernel) ⟨rfl, rfl, rfl, rfl, rfl, by decide +kernel⟩ ?hw ?hc; (case hrun => (intro w os; kernel_rfl))))
set_option maxHeartbeats 0 in
open_top head_top for PySem.Challenge.rw_umbrage_k54_parts_and_rooms
end U
section
/-! The data layer: slots hold data, lists of one's own, or the bag of draws; readings evaluate to data. -/
namespace U
open PySem L2 Evl
noncomputable abbrev Fg := PySem.W.Frag
noncomputable abbrev Hp := L2.Hp
noncomputable abbrev St := L2.St
open Classical in
noncomputable def less (H : Hp) (Z : Addr → Prop) : Hp := fun a => if Z a then none else H a
theorem less_no {H : Hp} {Z : Addr → Prop} {a : Addr} (h : ¬ Z a) : less H Z a = H a := if_neg h
theorem less_yes {H : Hp} {Z : Addr → Prop} {a : Addr} (h : Z a) : less H Z a = none := if_pos h
theorem less_some {H : Hp} {Z : Addr → Prop} {a : Addr} {o : HO} (h : less H Z a = some o) : ¬ Z a ∧ H a = some o := by
  by_cases z : Z a
  · rw [less_yes z] at h; cases h
  · rw [less_no z] at h; exact ⟨z, h⟩
theorem less_of {H : Hp} {Z : Addr → Prop} {a : Addr} {o : HO} (z : ¬ Z a) (h : H a = some o) : less H Z a = some o := (less_no z).trans h
theorem less_ex {H : Hp} {Z : Addr → Prop} : Ex (less H Z) H := fun _ _ h => (less_some h).2
theorem less_mono {H H' : Hp} {Z : Addr → Prop} (e : Ex H H') : Ex (less H Z) (less H' Z) := fun a o h => less_of (less_some h).1 (e a o (less_some h).2)
theorem less_sub {H : Hp} {Z Z' : Addr → Prop} (e : ∀ a, Z' a → Z a) : Ex (less H Z) (less H Z') := fun a o h => less_of (fun z => (less_some h).1 (e a z)) (less_some h).2
theorem less_but {H H' : Hp} {Z : Addr → Prop} (e : ∀ a o, H a = some o → ¬ Z a → H' a = some o) : Ex (less H Z) (less H' Z) := fun a o h => less_of (less_some h).1 (e a o (less_some h).2 (less_some h).1)

mutual
theorem dp_mono {K : Fg} {H H' : Hp} (e : Ex H H') : ∀ {d : PyData} {v : V}, Dp K H v d → Dp K H' v d
  | _, _, .non => .non
  | _, _, .bl b => .bl b
  | _, _, .int i => .int i
  | _, _, .str x => .str x
  | _, _, .lst h t => .lst (ex_l e h) (dpa_mono e t)
  | _, _, .tup h t => .tup (ex_t e h) (dpa_mono e t)
theorem dpa_mono {K : Fg} {H H' : Hp} (e : Ex H H') : ∀ {ds : List PyData} {vs : List V}, DpAll K H vs ds → DpAll K H' vs ds
  | _, _, .nil => .nil
  | _, _, .cons h t => .cons (dp_mono e h) (dpa_mono e t)
end
theorem dpa_len {K : Fg} {H : Hp} : ∀ {ds : List PyData} {vs : List V}, DpAll K H vs ds → vs.length = ds.length
  | _, _, .nil => rfl
  | _, _, .cons _ t => congrArg (· + 1) (dpa_len t)
theorem dpa_get {K : Fg} {H : Hp} : ∀ {ds : List PyData} {vs : List V} {i : Nat} {d : PyData}, DpAll K H vs ds → ds[i]? = some d → ∃ v, vs[i]? = some v ∧ Dp K H v d
  | _, _, _, _, .nil, e => by simp at e
  | _, _, 0, _, .cons h _, e => by
    have e := Option.some.inj e
    subst e
    exact ⟨_, rfl, h⟩
  | _, _, i + 1, _, .cons _ t, e => dpa_get (i := i) t e
theorem dpa_app {K : Fg} {H : Hp} : ∀ {ds es : List PyData} {vs us : List V}, DpAll K H vs ds → DpAll K H us es → DpAll K H (vs ++ us) (ds ++ es)
  | _, _, _, _, .nil, h => h
  | _, _, _, _, .cons h t, u => .cons h (dpa_app t u)

/-- the bag of draws: its cells, how often it was drawn, its number -/
structure Bag where
  cs : List Int
  i : Int
  j : Int
noncomputable def Bag.ok (s : Bag) : Prop := s.cs.length ≤ 63 ∧ 0 ≤ s.j ∧ s.j < 2147483647
noncomputable def BagAt (H : Hp) (B : Option (Addr × Addr)) (s : Bag) : Prop := match B with
  | some (b, c) => H b = some (.lst [.ref c, .int s.i, .int s.j]) ∧ H c = some (.lst (s.cs.map V.int)) ∧ s.ok
  | none => True
noncomputable def InB (B : Option (Addr × Addr)) (a : Addr) : Prop := ∃ b c, B = some (b, c) ∧ (a = b ∨ a = c)
inductive En where
  | un
  | d (x : PyData)
  | own (xs : List PyData)
  | bag
noncomputable abbrev Gam := List En
noncomputable def Zs (W : Addr → Prop) (B : Option (Addr × Addr)) (ad : Nat → Addr) (G : Gam) : Addr → Prop := fun a => W a ∨ (∃ i xs, G[i]? = some (.own xs) ∧ a = ad i) ∨ InB B a
noncomputable def Slot (K : Fg) (B : Option (Addr × Addr)) (ad : Nat → Addr) (H : Hp) (Z : Addr → Prop) (i : Nat) (o : Option V) : En → Prop
  | .un => True
  | .d x => ∃ v, o = some v ∧ Dp K (less H Z) v x
  | .own xs => o = some (.ref (ad i)) ∧ ∃ vs, H (ad i) = some (.lst vs) ∧ DpAll K (less H Z) vs xs
  | .bag => ∃ b c, B = some (b, c) ∧ o = some (.ref b)
/-- the state of a def's frame: slots, heap, bag, against the heap H0 at its entry -/
structure Sta (K : Fg) (W : Addr → Prop) (B : Option (Addr × Addr)) (ad : Nat → Addr) (H0 H : Hp) (σ : St) (G : Gam) (s : Bag) : Prop where
  len : σ.length = G.length
  at_ : ∀ i e, G[i]? = some e → ∃ o, σ[i]? = some o ∧ Slot K B ad H (Zs W B ad G) i o e
  inj : ∀ i j xs ys, G[i]? = some (.own xs) → G[j]? = some (.own ys) → ad i = ad j → i = j
  sep : ∀ i xs, G[i]? = some (.own xs) → H0 (ad i) = none ∧ ¬ InB B (ad i) ∧ ¬ W (ad i)
  base : ∀ a o, H0 a = some o → ¬ InB B a → H a = some o
  bag : BagAt H B s
  wd : ∀ a, W a → ∃ o, H a = some o
noncomputable def swp (ad : Nat → Addr) (i : Nat) (p : Addr) : Nat → Addr := fun j => if j = i then p else ad j
theorem swp_same {ad : Nat → Addr} {i : Nat} {p : Addr} : swp ad i p i = p := if_pos rfl
theorem swp_ne {ad : Nat → Addr} {i j : Nat} {p : Addr} (h : i ≠ j) : swp ad i p j = ad j := if_neg fun z => h z.symm
section
variable {K : Fg} {W : Addr → Prop} {B : Option (Addr × Addr)} {ad : Nat → Addr} {H0 H H2 : Hp} {σ : St} {G G' : Gam} {s s' : Bag}
theorem Slot.mono {Z Z' : Addr → Prop} {i : Nat} {o : Option V} {e : En} (h : Slot K B ad H Z i o e) (x : Ex (less H Z) (less H2 Z')) (y : ∀ xs vs, e = .own xs → H (ad i) = some (.lst vs) → H2 (ad i) = some (.lst vs)) : Slot K B ad H2 Z' i o e := by
  cases e with
  | un => trivial
  | d d => obtain ⟨v, e, h⟩ := h; exact ⟨v, e, dp_mono x h⟩
  | own xs => obtain ⟨e, vs, h1, h2⟩ := h; exact ⟨e, vs, y xs vs rfl h1, dpa_mono x h2⟩
  | bag => exact h
theorem upd_there {H : Hp} {p a : Addr} {o u : HO} (h : H a = some o) : ∃ o', upd H p u a = some o' := by
  by_cases z : a = p
  · exact ⟨u, by rw [z]; exact upd_same⟩
  · exact ⟨o, by rw [upd_ne z]; exact h⟩
/-- everything stays -/
theorem Sta.ext (S : Sta K W B ad H0 H σ G s) (e : Ex H H2) : Sta K W B ad H0 H2 σ G s where
  len := S.len
  at_ := fun i en h => by
    obtain ⟨o, h1, h2⟩ := S.at_ i en h
    exact ⟨o, h1, h2.mono (less_mono e) fun _ _ _ q => e _ _ q⟩
  inj := S.inj
  sep := S.sep
  base := fun a o h n => e _ _ (S.base a o h n)
  bag := by
    have h := S.bag
    unfold BagAt at h ⊢
    split
    · exact ⟨e _ _ h.1, e _ _ h.2.1, h.2.2⟩
    · trivial
  wd := fun a z => by
    obtain ⟨o, h⟩ := S.wd a z
    exact ⟨o, e _ _ h⟩
/-- all but the bag stays -/
theorem Sta.drawn (S : Sta K W B ad H0 H σ G s) (e : ∀ a o, H a = some o → ¬ InB B a → H2 a = some o) (b : BagAt H2 B s') : Sta K W B ad H0 H2 σ G s' where
  len := S.len
  at_ := fun i en h => by
    obtain ⟨o, h1, h2⟩ := S.at_ i en h
    refine ⟨o, h1, h2.mono (less_but fun a o q z => e a o q fun y => z (.inr (.inr y))) fun xs vs q q2 => ?_⟩
    subst q
    exact e _ _ q2 (S.sep i xs h).2.1
  inj := S.inj
  sep := S.sep
  base := fun a o h n => e a o (S.base a o h n) n
  bag := b
  wd := fun a z => by
    by_cases hb : InB B a
    · obtain ⟨b1, c1, rfl, hb⟩ := hb
      rcases hb with rfl | rfl
      · exact ⟨_, b.1⟩
      · exact ⟨_, b.2.1⟩
    · obtain ⟨o, h⟩ := S.wd a z
      exact ⟨o, e _ _ h hb⟩
theorem Zs.set_of {i : Nat} {e : En} (he : ∀ xs, e ≠ .own xs) {a : Addr} (h : Zs W B ad (G.set i e) a) : Zs W B ad G a := qt_of (by simp (disch := with_unfolding_all
  rcases h with h | ⟨j, xs, h, r⟩ | h
  · exact .inl h
  · by_cases z : i = j
    · subst z
      by_cases l : i < G.length
      · rw [List.getElem?_set_self l] at h
        exact absurd (Option.some.inj h) (he xs)
      · rw [List.getElem?_eq_none (by rw [List.length_set]; omega)] at h; cases h
    · rw [List.getElem?_set_ne z] at h
      exact .inr (.inl ⟨j, xs, h, r⟩)
  · exact .inr (.inr h)
  ) only [↓qt_eq])
theorem get_set {α : Type} {l : List α} {i j : Nat} {x y : α} (h : (l.set i x)[j]? = some y) : (i = j ∧ i < l.length ∧ x = y) ∨ (i ≠ j ∧ l[j]? = some y) := qt_of (by simp (disch := with_unfolding_all
  by_cases z : i = j
  · subst z
    by_cases q : i < l.length
    · rw [List.getElem?_set_self q] at h
      exact .inl ⟨rfl, q, Option.some.inj h⟩
    · rw [List.getElem?_eq_none (by rw [List.length_set]; omega)] at h; cases h
  · rw [List.getElem?_set_ne z] at h
    exact .inr ⟨z, h⟩
  ) only [↓qt_eq])
/-- a slot gets a thing that is no list of one's own -/
theorem Sta.set (S : Sta K W B ad H0 H σ G s) {i : Nat} {e : En} {o : Option V} (he : ∀ xs, e ≠ .own xs) (h : Slot K B ad H (Zs W B ad G) i o e) : Sta K W B ad H0 H (σ.set i o) (G.set i e) s where
  len := by rw [List.length_set, List.length_set]; exact S.len
  at_ := fun j en g => by
    rcases get_set g with ⟨rfl, l, rfl⟩ | ⟨z, g⟩
    · refine ⟨o, List.getElem?_set_self (by rw [S.len]; exact l), h.mono (less_sub fun a q => Zs.set_of he q) fun _ _ _ q => q⟩
    · obtain ⟨o', h1, h2⟩ := S.at_ j en g
      exact ⟨o', by rw [List.getElem?_set_ne z]; exact h1, h2.mono (less_sub fun a q => Zs.set_of he q) fun _ _ _ q => q⟩
  inj := fun j k xs ys g g' q => by
    rcases get_set g with ⟨rfl, l, e⟩ | ⟨z, g⟩
    · exact absurd e (he xs)
    · rcases get_set g' with ⟨rfl, l, e⟩ | ⟨z', g'⟩
      · exact absurd e (he ys)
      · exact S.inj j k xs ys g g' q
  sep := fun j xs g => by
    rcases get_set g with ⟨rfl, l, e⟩ | ⟨z, g⟩
    · exact absurd e (he xs)
    · exact S.sep j xs g
  base := S.base
  bag := S.bag
  wd := S.wd
theorem Sta.setD (S : Sta K W B ad H0 H σ G s) {i : Nat} {v : V} {x : PyData} (h : Dp K (less H (Zs W B ad G)) v x) : Sta K W B ad H0 H (σ.set i (some v)) (G.set i (.d x)) s :=
  S.set (fun _ z => by cases z) ⟨v, rfl, h⟩
theorem Sta.fresh (S : Sta K W B ad H0 H σ G s) {p : Addr} (h : H p = none) : H0 p = none ∧ ¬ InB B p := qt_of (by simp (disch := with_unfolding_all
  have hB : ¬ InB B p := by
    rintro ⟨b, c, rfl, z⟩
    have q := S.bag
    unfold BagAt at q
    rcases z with rfl | rfl
    · rw [q.1] at h; cases h
    · rw [q.2.1] at h; cases h
  refine ⟨?_, hB⟩
  cases e : H0 p with
  | none => rfl
  | some o => rw [S.base p o e hB] at h; cases h
  ) only [↓qt_eq])
/-- a thing of another's, which is new to this def, is changed -/
theorem Sta.foreign (S : Sta K W B ad H0 H σ G s) {p : Addr} {o : HO} (hw : W p) (h0 : H0 p = none) (hB : ¬ InB B p) : Sta K W B ad H0 (upd H p o) σ G s ∧ less (upd H p o) (Zs W B ad G) = less H (Zs W B ad G) := qt_of (by simp (disch := with_unfolding_all
  have el : less (upd H p o) (Zs W B ad G) = less H (Zs W B ad G) := by
    funext a
    by_cases z : Zs W B ad G a
    · rw [less_yes z, less_yes z]
    · rw [less_no z, less_no z, upd_ne (fun e => z (.inl (by rw [e]; exact hw)))]
  refine ⟨⟨S.len, fun i e h => ?_, S.inj, S.sep, fun a u q n => ?_, ?_, fun a z => (S.wd a z).elim fun o q => upd_there q⟩, el⟩
  · obtain ⟨u, g1, g2⟩ := S.at_ i e h
    refine ⟨u, g1, g2.mono (by rw [el]; exact Ex.refl _) fun xs vs q q2 => ?_⟩
    subst q
    rw [upd_ne (fun z => (S.sep i xs h).2.2 (by rw [z]; exact hw))]; exact q2
  · rw [upd_ne (fun z => by rw [z, h0] at q; cases q)]; exact S.base a u q n
  · have hg := S.bag
    rcases B with _ | ⟨b, c⟩
    · trivial
    · have h : H b = _ ∧ _ := hg
      refine ⟨?_, ?_, h.2.2⟩
      · rw [upd_ne (fun z => hB ⟨b, c, rfl, .inl z.symm⟩)]; exact h.1
      · rw [upd_ne (fun z => hB ⟨b, c, rfl, .inr z.symm⟩)]; exact h.2.1
  ) only [↓qt_eq])
/-- a new thing is for a while another's -/
theorem Sta.lend (S : Sta K W B ad H0 H σ G s) {p : Addr} {o : HO} (hp : H p = none) : Sta K (fun a => W a ∨ a = p) B ad H0 (upd H p o) σ G s ∧ less (upd H p o) (Zs (fun a => W a ∨ a = p) B ad G) = less H (Zs W B ad G) := qt_of (by simp (disch := with_unfolding_all
  have np : ¬ Zs W B ad G p := by
    rintro (z | ⟨i, xs, g, r⟩ | z)
    · obtain ⟨o, z⟩ := S.wd _ z
      rw [hp] at z; cases z
    · obtain ⟨_, _, _, vs, h1, _⟩ := S.at_ i _ g
      rw [← r, hp] at h1; cases h1
    · obtain ⟨b, c, rfl, z⟩ := z
      rcases z with rfl | rfl
      · rw [S.bag.1] at hp; cases hp
      · rw [S.bag.2.1] at hp; cases hp
  have zz : ∀ a, Zs (fun a => W a ∨ a = p) B ad G a ↔ Zs W B ad G a ∨ a = p := fun a => by
    constructor
    · rintro ((z | z) | z | z)
      · exact .inl (.inl z)
      · exact .inr z
      · exact .inl (.inr (.inl z))
      · exact .inl (.inr (.inr z))
    · rintro ((z | z | z) | z)
      · exact .inl (.inl z)
      · exact .inr (.inl z)
      · exact .inr (.inr z)
      · exact .inl (.inr z)
  have el : less (upd H p o) (Zs (fun a => W a ∨ a = p) B ad G) = less H (Zs W B ad G) := by
    funext a
    by_cases e : a = p
    · rw [less_yes ((zz a).mpr (.inr e)), e, less_no np, hp]
    · by_cases z : Zs W B ad G a
      · rw [less_yes z, less_yes ((zz a).mpr (.inl z))]
      · rw [less_no z, less_no (fun y => ((zz a).mp y).elim z e), upd_ne e]
  have ex : Ex H (upd H p o) := Ex.new hp
  have S' := S.ext ex
  refine ⟨⟨S.len, fun i e h => ?_, S.inj, fun i xs h => ⟨(S.sep i xs h).1, (S.sep i xs h).2.1, fun z => z.elim (S.sep i xs h).2.2 fun z => np (by rw [← z]; exact .inr (.inl ⟨i, xs, h, rfl⟩))⟩, S'.base, S'.bag, fun a z => z.elim (fun z => S'.wd a z) fun z => ⟨o, by rw [z]; exact upd_same⟩⟩, el⟩
  obtain ⟨u, g1, g2⟩ := S.at_ i e h
  exact ⟨u, g1, g2.mono (by rw [el]; exact Ex.refl _) fun xs vs q q2 => ex _ _ q2⟩
  ) only [↓qt_eq])
/-- .. and is given back -/
theorem Sta.back {p : Addr} (S : Sta K (fun a => W a ∨ a = p) B ad H0 H σ G s) : Sta K W B ad H0 H σ G s ∧ Ex (less H (Zs (fun a => W a ∨ a = p) B ad G)) (less H (Zs W B ad G)) := qt_of (by simp (disch := with_unfolding_all
  have ex : Ex (less H (Zs (fun a => W a ∨ a = p) B ad G)) (less H (Zs W B ad G)) := less_sub fun a z => z.elim (fun z => .inl (.inl z)) .inr
  refine ⟨⟨S.len, fun i e h => ?_, S.inj, fun i xs h => ⟨(S.sep i xs h).1, (S.sep i xs h).2.1, fun z => (S.sep i xs h).2.2 (.inl z)⟩, S.base, S.bag, fun a z => S.wd a (.inl z)⟩, ex⟩
  obtain ⟨u, g1, g2⟩ := S.at_ i e h
  exact ⟨u, g1, g2.mono ex fun _ _ _ q => q⟩
  ) only [↓qt_eq])
end
end U

end
section
namespace U
open PySem L2 Evl
/-- all but the bag stays -/
noncomputable def Xb (B : Option (Addr × Addr)) (H H2 : Hp) : Prop := ∀ a o, H a = some o → ¬ InB B a → H2 a = some o
theorem Xb.refl {B : Option (Addr × Addr)} {H : Hp} : Xb B H H := fun _ _ h _ => h
theorem Xb.trans {B : Option (Addr × Addr)} {H H1 H2 : Hp} (a : Xb B H H1) (b : Xb B H1 H2) : Xb B H H2 := fun p o h n => b p o (a p o h n) n
theorem Xb.l {B : Option (Addr × Addr)} {H H2 : Hp} (a : Xb B H H2) {W : Addr → Prop} {ad : Nat → Addr} {G : Gam} : Ex (less H (Zs W B ad G)) (less H2 (Zs W B ad G)) := less_but fun p o h n => a p o h fun z => n (.inr (.inr z))
theorem Xb.of {B : Option (Addr × Addr)} {H H2 : Hp} (e : Ex H H2) : Xb B H H2 := fun p o h _ => e p o h
/-! ### what a reading evaluates to -/
noncomputable def EvG (K : Fg) (te : TE) (G : Gam) (s : Bag) (x : PyData) (s' : Bag) : Prop :=
  ∀ W B ad H0 H σ, Sta K W B ad H0 H σ G s → ∀ Q : VK, (∀ v H2, Sta K W B ad H0 H2 σ G s' → Xb B H H2 → Dp K (less H2 (Zs W B ad G)) v x → Q v H2) → te σ H Q
noncomputable def EvT (K : Fg) (tt : TT) (G : Gam) (s : Bag) (b : Bool) (s' : Bag) : Prop :=
  ∀ W B ad H0 H σ, Sta K W B ad H0 H σ G s → ∀ Q : Bool → Hp → Prop, (∀ H2, Sta K W B ad H0 H2 σ G s' → Xb B H H2 → Q b H2) → tt σ H Q
noncomputable def EvA (K : Fg) (ta : TA) (G : Gam) (s : Bag) (xs : List PyData) (s' : Bag) : Prop :=
  ∀ W B ad H0 H σ, Sta K W B ad H0 H σ G s → ∀ Q : List V → Hp → Prop, (∀ vs H2, Sta K W B ad H0 H2 σ G s' → Xb B H H2 → DpAll K (less H2 (Zs W B ad G)) vs xs → Q vs H2) → ta σ H Q
/-- a new list as a value of its own (not yet data) is not spoken of: lists are data once made -/
inductive Out where
  | nx (G : Gam) (s : Bag)
  | rt (x : PyData) (s : Bag)
  | bk (G : Gam) (s : Bag)
  | ct (G : Gam) (s : Bag)
noncomputable def Post (K : Fg) (W : Addr → Prop) (B : Option (Addr × Addr)) (H0 M : Hp) (D : Ends) : Out → Prop
  | .nx G s => ∀ ad H σ, Sta K W B ad H0 H σ G s → Ex M (less H (Zs W B ad G)) → D.nx σ H
  | .rt x s => ∀ v H, (∀ a o, H0 a = some o → ¬ InB B a → H a = some o) → BagAt H B s → Dp K (less H fun a => W a ∨ InB B a) v x → D.rt v H
  | .bk G s => ∀ ad H σ, Sta K W B ad H0 H σ G s → Ex M (less H (Zs W B ad G)) → D.bk σ H
  | .ct G s => ∀ ad H σ, Sta K W B ad H0 H σ G s → Ex M (less H (Zs W B ad G)) → D.ct σ H
noncomputable def SG (K : Fg) (ts : TS) (G : Gam) (s : Bag) (o : Out) : Prop :=
  ∀ W B ad H0 H σ (D : Ends), Sta K W B ad H0 H σ G s → Post K W B H0 (less H (Zs W B ad G)) D o → ts D σ H

section
variable {K : Fg} {G G1 G2 : Gam} {s s1 s2 s3 s' : Bag} {ta tb tc te : TE} {t u : TT} {x y z : PyData}
/-! ### values -/
theorem ev_is {x'} (h : EvG K te G s x s') (e : x = x') : EvG K te G s x' s' := e ▸ h
theorem et_is {b b' : Bool} (h : EvT K t G s b s') (e : b = b') : EvT K t G s b' s' := e ▸ h
theorem ev_var {i : Nat} (h : G[i]? = some (.d x)) : EvG K (tVar i) G s x s := fun W B ad H0 H σ S Q q => by
  obtain ⟨o, h1, v, rfl, h2⟩ := S.at_ i _ h
  exact ⟨v, h1, q v H S (Xb.refl) h2⟩
theorem ev_int {i : Int} : EvG K (tC (.int i)) G s (.int i) s := fun W B ad H0 H σ S Q q => q _ H S (Xb.refl) (.int i)
/-! ### argument lists and displays -/
theorem ea_nil : EvA K tNil G s [] s := fun W B ad H0 H σ S Q q => q _ H S (Xb.refl) .nil
theorem ea_cons {tr : TA} {xs : List PyData} (h : EvG K ta G s x s1) (hr : EvA K tr G s1 xs s2) : EvA K (tCons ta tr) G s (x :: xs) s2 := fun W B ad H0 H σ S Q q =>
  h W B ad H0 H σ S _ fun v H1 S1 e1 d1 => hr W B ad H0 H1 σ S1 _ fun vs H2 S2 e2 d2 => q _ H2 S2 (e1.trans e2) (.cons (dp_mono e2.l d1) d2)
theorem new_ex {W : Addr → Prop} {B : Option (Addr × Addr)} {ad : Nat → Addr} {H0 H : Hp} {σ : St} (S : Sta K W B ad H0 H σ G s) {p : Addr} {o : HO} (h : H p = none) :
    Sta K W B ad H0 (upd H p o) σ G s ∧ Xb B H (upd H p o) ∧ less (upd H p o) (Zs W B ad G) p = some o := qt_of (by simp (disch := with_unfolding_all
  have e : Ex H (upd H p o) := Ex.new h
  refine ⟨S.ext e, .of e, less_of ?_ upd_same⟩
  rintro (z | ⟨i, xs, g, r⟩ | z)
  · obtain ⟨o, z⟩ := S.wd _ z
    rw [h] at z; cases z
  · obtain ⟨_, _, _, vs, h1, _⟩ := S.at_ i _ g
    rw [← r, h] at h1; cases h1
  · exact (S.fresh h).2 z
  ) only [↓qt_eq])
theorem sz_line {n : Nat} (h : n ≤ 16000000) : n ≤ sizeLine := Nat.le_trans h (by decide)
theorem ev_tup {ta : TA} {xs : List PyData} (h : EvA K ta G s xs s') (hl : xs.length ≤ 16000000) : EvG K (tTup ta) G s (.tuple xs) s' := fun W B ad H0 H σ S Q q =>
  h W B ad H0 H σ S _ fun vs H1 S1 e1 d1 => ⟨by rw [dpa_len d1]; exact sz_line hl, fun p hp => by
    obtain ⟨S2, e2, g⟩ := new_ex (o := .tup vs) S1 hp
    exact q _ _ S2 (e1.trans e2) (.tup (st_of g) (dpa_mono e2.l d1))⟩
theorem ev_lst {ta : TA} {xs : List PyData} (h : EvA K ta G s xs s') (hl : xs.length ≤ 16000000) : EvG K (tLst ta) G s (.list xs) s' := fun W B ad H0 H σ S Q q =>
  h W B ad H0 H σ S _ fun vs H1 S1 e1 d1 => ⟨by rw [dpa_len d1]; exact sz_line hl, fun p hp => by
    obtain ⟨S2, e2, g⟩ := new_ex (o := .lst vs) S1 hp
    exact q _ _ S2 (e1.trans e2) (.lst (sq_of g) (dpa_mono e2.l d1))⟩
/-! ### operators -/
theorem ev_I0 {g : Int → Int → V} {f : Int → Int → PyData} {i j : Int} (ha : EvG K ta G s (.int i) s1) (hb : EvG K tb G s1 (.int j) s2) (hg : ∀ H, Dp K H (g i j) (f i j)) : EvG K (tOp (rI0 g) ta tb) G s (f i j) s2 := fun W B ad H0 H σ S Q q =>
  ha W B ad H0 H σ S _ fun v H1 S1 e1 d1 => hb W B ad H0 H1 σ S1 _ fun w H2 S2 e2 d2 => by
    cases d1; cases d2
    exact ⟨i, j, rfl, rfl, q _ H2 S2 (e1.trans e2) (hg _)⟩
theorem ev_I {C : Int → Int → Prop} {g : Int → Int → V} {f : Int → Int → PyData} {i j : Int} (ha : EvG K ta G s (.int i) s1) (hb : EvG K tb G s1 (.int j) s2) (hc : C i j) (hg : ∀ H, Dp K H (g i j) (f i j)) : EvG K (tOp (rI C g) ta tb) G s (f i j) s2 := fun W B ad H0 H σ S Q q =>
  ha W B ad H0 H σ S _ fun v H1 S1 e1 d1 => hb W B ad H0 H1 σ S1 _ fun w H2 S2 e2 d2 => by
    cases d1; cases d2
    exact ⟨i, j, rfl, rfl, hc, q _ H2 S2 (e1.trans e2) (hg _)⟩
theorem ev_add {i j : Int} (ha : EvG K ta G s (.int i) s1) (hb : EvG K tb G s1 (.int j) s2) : EvG K (tOp (rI0 fun i j => .int (i + j)) ta tb) G s (.int (i + j)) s2 := ev_I0 (f := fun i j => .int (i + j)) ha hb fun _ => .int _
theorem ev_sub {i j : Int} (ha : EvG K ta G s (.int i) s1) (hb : EvG K tb G s1 (.int j) s2) : EvG K (tOp (rI0 fun i j => .int (i - j)) ta tb) G s (.int (i - j)) s2 := ev_I0 (f := fun i j => .int (i - j)) ha hb fun _ => .int _
/-- // by any divisor but 0, of less than 9000 bits -/
noncomputable def CDvX (_ j : Int) : Prop := j ≠ 0 ∧ j.natAbs.log2 < 9000
theorem op_fdivX {X : Cx} : OpR X (binaryOp .FloorDiv) (rI CDvX fun i j => .int (i.fdiv j)) := opI fun i j _ _ _ _ _ hc q => PyProof.Rows.floordiv_int hc.1 q (.inl (PyProof.noPylong_of_log2 hc.2))
theorem ev_fdiv {i j : Int} (ha : EvG K ta G s (.int i) s1) (hb : EvG K tb G s1 (.int j) s2) (hc : CDvX i j) : EvG K (tOp (rI CDvX fun i j => .int (i.fdiv j)) ta tb) G s (.int (i.fdiv j)) s2 := ev_I (f := fun i j => .int (i.fdiv j)) ha hb hc fun _ => .int _
noncomputable def CNz (_ j : Int) : Prop := j ≠ 0
theorem op_modX {X : Cx} : OpR X (binaryOp .Mod) (rI CNz fun i j => .int (i.fmod j)) := op_modN
theorem ev_mod {i j : Int} (ha : EvG K ta G s (.int i) s1) (hb : EvG K tb G s1 (.int j) s2) (hc : CNz i j) : EvG K (tOp (rI CNz fun i j => .int (i.fmod j)) ta tb) G s (.int (i.fmod j)) s2 := ev_I (f := fun i j => .int (i.fmod j)) ha hb hc fun _ => .int _
theorem ev_lt {i j : Int} (ha : EvG K ta G s (.int i) s1) (hb : EvG K tb G s1 (.int j) s2) : EvG K (tOp (rI0 fun i j => .bl (decide (i < j))) ta tb) G s (.bool (decide (i < j))) s2 := ev_I0 (f := fun i j => .bool (decide (i < j))) ha hb fun _ => .bl _
theorem ev_gt {i j : Int} (ha : EvG K ta G s (.int i) s1) (hb : EvG K tb G s1 (.int j) s2) : EvG K (tOp (rI0 fun i j => .bl (decide (j < i))) ta tb) G s (.bool (decide (j < i))) s2 := ev_I0 (f := fun i j => .bool (decide (j < i))) ha hb fun _ => .bl _
theorem ev_eqI {i j : Int} (ha : EvG K ta G s (.int i) s1) (hb : EvG K tb G s1 (.int j) s2) : EvG K (tOp rEq ta tb) G s (.bool (decide (i = j))) s2 := fun W B ad H0 H σ S Q q =>
  ha W B ad H0 H σ S _ fun v H1 S1 e1 d1 => hb W B ad H0 H1 σ S1 _ fun w H2 S2 e2 d2 => by
    cases d1; cases d2
    have e : decide (V.int i = V.int j) = decide (i = j) := by simp
    exact ⟨rfl, by rw [e]; exact q _ H2 S2 (e1.trans e2) (.bl _)⟩
theorem ev_neI {i j : Int} (ha : EvG K ta G s (.int i) s1) (hb : EvG K tb G s1 (.int j) s2) : EvG K (tOp rNe ta tb) G s (.bool (!decide (i = j))) s2 := fun W B ad H0 H σ S Q q =>
  ha W B ad H0 H σ S _ fun v H1 S1 e1 d1 => hb W B ad H0 H1 σ S1 _ fun w H2 S2 e2 d2 => by
    cases d1; cases d2
    have e : decide (V.int i = V.int j) = decide (i = j) := by simp
    exact ⟨rfl, by rw [e]; exact q _ H2 S2 (e1.trans e2) (.bl _)⟩
theorem ev_eqS {i j : Str} (ha : EvG K ta G s (.str i) s1) (hb : EvG K tb G s1 (.str j) s2) : EvG K (tOp rEq ta tb) G s (.bool (decide (i = j))) s2 := fun W B ad H0 H σ S Q q =>
  ha W B ad H0 H σ S _ fun v H1 S1 e1 d1 => hb W B ad H0 H1 σ S1 _ fun w H2 S2 e2 d2 => by
    cases d1; cases d2
    have e : decide (V.str i = V.str j) = decide (i = j) := by simp
    exact ⟨rfl, by rw [e]; exact q _ H2 S2 (e1.trans e2) (.bl _)⟩
theorem ev_eqB {i j : Bool} (ha : EvG K ta G s (.bool i) s1) (hb : EvG K tb G s1 (.bool j) s2) : EvG K (tOp rEq ta tb) G s (.bool (decide (i = j))) s2 := fun W B ad H0 H σ S Q q =>
  ha W B ad H0 H σ S _ fun v H1 S1 e1 d1 => hb W B ad H0 H1 σ S1 _ fun w H2 S2 e2 d2 => by
    cases d1; cases d2
    have e : decide (V.bl i = V.bl j) = decide (i = j) := by simp
    exact ⟨rfl, by rw [e]; exact q _ H2 S2 (e1.trans e2) (.bl _)⟩
theorem ev_neB {i j : Bool} (ha : EvG K ta G s (.bool i) s1) (hb : EvG K tb G s1 (.bool j) s2) : EvG K (tOp rNe ta tb) G s (.bool (!decide (i = j))) s2 := fun W B ad H0 H σ S Q q =>
  ha W B ad H0 H σ S _ fun v H1 S1 e1 d1 => hb W B ad H0 H1 σ S1 _ fun w H2 S2 e2 d2 => by
    cases d1; cases d2
    have e : decide (V.bl i = V.bl j) = decide (i = j) := by simp
    exact ⟨rfl, by rw [e]; exact q _ H2 S2 (e1.trans e2) (.bl _)⟩
theorem ev_neg {i : Int} (ha : EvG K ta G s (.int i) s') : EvG K (tUn (rU fun i => .int (-i)) ta) G s (.int (-i)) s' := fun W B ad H0 H σ S Q q =>
  ha W B ad H0 H σ S _ fun v H1 S1 e1 d1 => by
    cases d1
    exact ⟨i, rfl, q _ H1 S1 e1 (.int _)⟩
noncomputable def isNoneD : PyData → Bool
  | .none => true
  | _ => false
theorem dp_none {K : Fg} {H : Hp} {v : V} {x : PyData} (h : Dp K H v x) : decide (v = V.non) = isNoneD x := by
  cases h <;> simp [isNoneD]
theorem ev_isN (ha : EvG K ta G s x s') : EvG K (tOp (fun x y H Q => y = .non ∧ Q (.bl (decide (x = .non))) H) ta (tC .non)) G s (.bool (isNoneD x)) s' := fun W B ad H0 H σ S Q q =>
  ha W B ad H0 H σ S _ fun v H1 S1 e1 d1 => ⟨rfl, by rw [dp_none d1]; exact q _ H1 S1 e1 (.bl _)⟩
/-! ### items -/
theorem dpa_atI {K : Fg} {H : Hp} {ds : List PyData} {vs : List V} {i : Int} {d : PyData} (h : DpAll K H vs ds) (e : atI ds i = some d) : ∃ v, atI vs i = some v ∧ Dp K H v d := by
  unfold atI at e ⊢
  rw [dpa_len h]
  cases q : ixN ds.length i with
  | none => rw [q] at e; cases e
  | some j =>
    rw [q] at e
    exact dpa_get h e
theorem ev_ixT {xs : List PyData} {i : Int} (ha : EvG K ta G s (.tuple xs) s1) (hb : EvG K tb G s1 (.int i) s2) (he : atI xs i = some x) : EvG K (tOp (rIx K) ta tb) G s x s2 := fun W B ad H0 H σ S Q q =>
  ha W B ad H0 H σ S _ fun v H1 S1 e1 d1 => hb W B ad H0 H1 σ S1 _ fun w H2 S2 e2 d2 => by
    cases d2
    cases dp_mono e2.l d1 with
    | tup h t =>
      obtain ⟨v, g1, g2⟩ := dpa_atI t he
      exact .inr (.inl ⟨_, _, i, v, rfl, rfl, ex_t less_ex h, g1, q _ H2 S2 (e1.trans e2) g2⟩)
theorem ev_ixL {xs : List PyData} {i : Int} (ha : EvG K ta G s (.list xs) s1) (hb : EvG K tb G s1 (.int i) s2) (he : atI xs i = some x) : EvG K (tOp (rIx K) ta tb) G s x s2 := fun W B ad H0 H σ S Q q =>
  ha W B ad H0 H σ S _ fun v H1 S1 e1 d1 => hb W B ad H0 H1 σ S1 _ fun w H2 S2 e2 d2 => by
    cases d2
    cases dp_mono e2.l d1 with
    | lst h t =>
      obtain ⟨v, g1, g2⟩ := dpa_atI t he
      exact .inl ⟨_, _, i, v, rfl, rfl, ex_l less_ex h, g1, q _ H2 S2 (e1.trans e2) g2⟩
/-! ### tests -/
theorem et_test {b : Bool} (h : EvG K te G s (.bool b) s') : EvT K (tTest te) G s b s' := fun W B ad H0 H σ S Q q => h W B ad H0 H σ S _ fun v H1 S1 e1 d1 => by
  cases d1
  exact ⟨b, rfl, q H1 S1 e1⟩
theorem et_B {b : Bool} (h : EvG K te G s (.bool b) s') : EvT K (tB te) G s b s' := fun W B ad H0 H σ S Q q => h W B ad H0 H σ S _ fun v H1 S1 e1 d1 => by
  cases d1
  exact ⟨b, rfl, q H1 S1 e1⟩
theorem et_not {b : Bool} (h : EvT K t G s b s') : EvT K (tNot t) G s (!b) s' := fun W B ad H0 H σ S Q q => h W B ad H0 H σ S _ q
theorem et_orF {b : Bool} (h : EvT K t G s false s1) (h2 : EvT K u G s1 b s2) : EvT K (tOr t u) G s b s2 := fun W B ad H0 H σ S Q q => h W B ad H0 H σ S _ fun H1 S1 e1 => iteF (h2 W B ad H0 H1 σ S1 _ fun H2 S2 e2 => q H2 S2 (e1.trans e2))
theorem ev_andT (h : EvG K ta G s (.bool true) s1) (h2 : EvG K tb G s1 x s2) : EvG K (tAndV ta tb) G s x s2 := fun W B ad H0 H σ S Q q => h W B ad H0 H σ S _ fun v H1 S1 e1 d1 => by
  cases d1
  exact ⟨true, rfl, iteT (h2 W B ad H0 H1 σ S1 _ fun v H2 S2 e2 d2 => q v H2 S2 (e1.trans e2) d2)⟩
theorem ev_not {a : Bool} (h : EvG K ta G s (.bool a) s') : EvG K (tNotV ta) G s (.bool (!a)) s' := fun W B ad H0 H σ S Q q => h W B ad H0 H σ S _ fun v H1 S1 e1 d1 => by
  cases d1
  exact ⟨a, rfl, q _ H1 S1 e1 (.bl _)⟩
theorem ev_ifT (h : EvT K t G s true s1) (h1 : EvG K ta G s1 x s2) : EvG K (tIf t ta tb) G s x s2 := fun W B ad H0 H σ S Q q => h W B ad H0 H σ S _ fun H1 S1 e1 => iteT (h1 W B ad H0 H1 σ S1 _ fun v H2 S2 e2 d2 => q v H2 S2 (e1.trans e2) d2)
theorem ev_ifF (h : EvT K t G s false s1) (h1 : EvG K tb G s1 x s2) : EvG K (tIf t ta tb) G s x s2 := fun W B ad H0 H σ S Q q => h W B ad H0 H σ S _ fun H1 S1 e1 => iteF (h1 W B ad H0 H1 σ S1 _ fun v H2 S2 e2 d2 => q v H2 S2 (e1.trans e2) d2)
/-! ### what a def promises: of data; of the bag and data -/
noncomputable def spP (K : Fg) (P : List PyData → PyData → Prop) : Sp := fun vs H Q _ => ∃ (W : Addr → Prop) (ds : List PyData) (r : PyData), (∀ a, W a → ∃ o, H a = some o) ∧ DpAll K (less H W) vs ds ∧ P ds r ∧ ∀ v H', Ex H H' → Dp K (less H' W) v r → Q v H'
noncomputable def spB (K : Fg) (P : Bag → List PyData → PyData → Bag → Prop) : Sp := fun vs H Q _ => ∃ (W : Addr → Prop) (b c : Addr) (us : List V) (s : Bag) (ds : List PyData) (r : PyData) (s' : Bag), (∀ a, W a → ∃ o, H a = some o) ∧ vs = .ref b :: us ∧ BagAt H (some (b, c)) s ∧
  DpAll K (less H fun a => W a ∨ InB (some (b, c)) a) us ds ∧ P s ds r s' ∧ ∀ v H', (∀ a o, H a = some o → ¬ InB (some (b, c)) a → H' a = some o) → BagAt H' (some (b, c)) s' → Dp K (less H' fun a => W a ∨ InB (some (b, c)) a) v r → Q v H'
theorem bag_there {H : Hp} {B : Option (Addr × Addr)} {a : Addr} (h : BagAt H B s) (z : InB B a) : ∃ o, H a = some o := by
  obtain ⟨b, c, rfl, z⟩ := z
  rcases z with rfl | rfl
  · exact ⟨_, h.1⟩
  · exact ⟨_, h.2.1⟩
theorem Sta.there {W : Addr → Prop} {B : Option (Addr × Addr)} {ad : Nat → Addr} {H0 H : Hp} {σ : St} (S : Sta K W B ad H0 H σ G s) (a : Addr) (z : Zs W B ad G a) : ∃ o, H a = some o := by
  by_cases hb : InB B a
  · exact bag_there S.bag hb
  rcases z with z | ⟨i, xs, g, rfl⟩ | z
  · exact S.wd _ z
  · obtain ⟨_, _, _, vs, h1, _⟩ := S.at_ i _ g
    exact ⟨_, h1⟩
  · exact absurd z hb
theorem ev_call {P : List PyData → PyData → Prop} {ta : TA} {ds : List PyData} {dvs : List V} {des : List PyData} {E : XK} (h : EvA K ta G s ds s') (hd : ∀ H, DpAll K H dvs des) (hp : P (ds ++ des) x) : EvG K (tCall (spP K P) dvs E ta) G s x s' := fun W B ad H0 H σ S Q q =>
  h W B ad H0 H σ S _ fun vs H1 S1 e1 d1 => ⟨Zs W B ad G, ds ++ des, x, S1.there, dpa_app d1 (hd _), hp, fun v H' e d => q v H' (S1.ext e) (e1.trans (.of e)) d⟩
theorem ev_callB {P : Bag → List PyData → PyData → Bag → Prop} {tr : TA} {i : Nat} {ds : List PyData} {E : XK} (hi : G[i]? = some .bag) (h : EvA K tr G s ds s1) (hp : P s1 ds x s') : EvG K (tCall (spB K P) [] E (tCons (tVar i) tr)) G s x s' := fun W B ad H0 H σ S Q q => by
  obtain ⟨o, g1, b, c, rfl, rfl⟩ := S.at_ i _ hi
  refine ⟨_, g1, h W _ ad H0 H σ S _ fun vs H1 S1 e1 d1 => ?_⟩
  have zz : ∀ a, (((fun a => W a ∨ ∃ i xs, G[i]? = some (En.own xs) ∧ a = ad i) a) ∨ InB (some (b, c)) a) ↔ Zs W (some (b, c)) ad G a := fun a => or_assoc
  have zl : ∀ H : Hp, (less H fun a => (W a ∨ ∃ i xs, G[i]? = some (En.own xs) ∧ a = ad i) ∨ InB (some (b, c)) a) = less H (Zs W (some (b, c)) ad G) := fun H => congrArg (less H) (funext fun a => propext (zz a))
  refine ⟨fun a => W a ∨ ∃ i xs, G[i]? = some (En.own xs) ∧ a = ad i, b, c, vs, s1, ds, x, s', fun a z => S1.there a ((zz a).mp (.inl z)), ?_, S1.bag, ?_, hp, fun v H' e hb d => ?_⟩
  · rw [List.append_nil]
  · rw [zl]; exact d1
  · rw [zl] at d
    exact q v H' (S1.drawn e hb) (e1.trans e) d
end
end U

end
section
namespace U
open PySem L2 Evl
/-! ### built-ins, by name -/
noncomputable def rAbs : List V → Hp → VK → Prop := fun xs H Q => ∃ i, xs = [.int i] ∧ Q (.int (if i < 0 then -i else i)) H
noncomputable def rMx : List V → Hp → VK → Prop := fun xs H Q => ∃ i j, xs = [.int i, .int j] ∧ Q (.int (if j > i then j else i)) H
noncomputable def rLenQ (K : Fg) : List V → Hp → VK → Prop := fun xs H Q => ∃ p ys, xs = [.ref p] ∧ (SqL K H p ys ∨ SqT K H p ys) ∧ Q (.int ys.length) H
noncomputable def rListQ (K : Fg) : List V → Hp → VK → Prop := fun xs H Q => ∃ p ys, xs = [.ref p] ∧ (SqL K H p ys ∨ SqT K H p ys) ∧ ∀ l, H l = none → Q (.ref l) (upd H l (.lst ys))
noncomputable def rTupQ (K : Fg) : List V → Hp → VK → Prop := fun xs H Q => ∃ p ys, xs = [.ref p] ∧ ((SqL K H p ys ∧ ∀ l, H l = none → Q (.ref l) (upd H l (.tup ys))) ∨ (SqT K H p ys ∧ Q (.ref p) H))
noncomputable def rIsNo : R2 := fun x y H Q => y = .non ∧ Q (.bl (decide (x = .non))) H
section
variable {X : Cx}
theorem c_abs : CallR X (.builtin "abs") rAbs := call_abs
theorem c_max2 (hc : X.calm = true) : CallR X (.builtin "max") rMx := call_max2 hc
theorem c_len : CallR X (.builtin "len") (rLenQ X.K) := call_len_seq
theorem c_list : CallR X (.type "list") (rListQ X.K) := call_list_of
theorem c_tuple : CallR X (.type "tuple") (rTupQ X.K) := call_tuple_of
theorem o_isN : OpR X (compareOp .Is) rIsNo := op_isN
end
section
variable {K : Fg} {G G1 G2 : Gam} {s s1 s2 s3 s' : Bag} {ta tb tc te : TE} {t u : TT} {x y z : PyData}
theorem ev_isNo (ha : EvG K ta G s x s') : EvG K (tOp rIsNo ta (tC .non)) G s (.bool (isNoneD x)) s' := ev_isN ha
/-- a call of a built-in upon data -/
theorem ev_cb {r : List V → Hp → VK → Prop} {ta : TA} {xs : List PyData} (h : EvA K ta G s xs s')
    (hr : ∀ W B ad H0 H σ vs, Sta K W B ad H0 H σ G s' → DpAll K (less H (Zs W B ad G)) vs xs → ∀ Q : VK, (∀ v H2, Sta K W B ad H0 H2 σ G s' → Xb B H H2 → Dp K (less H2 (Zs W B ad G)) v x → Q v H2) → r vs H Q) : EvG K (tCB r ta) G s x s' := fun W B ad H0 H σ S Q q =>
  h W B ad H0 H σ S _ fun vs H1 S1 e1 d1 => hr W B ad H0 H1 σ vs S1 d1 Q fun v H2 S2 e2 d2 => q v H2 S2 (e1.trans e2) d2
theorem dp1 {H : Hp} {vs : List V} {x : PyData} (h : DpAll K H vs [x]) : ∃ v, vs = [v] ∧ Dp K H v x := by
  cases h with
  | cons a b => cases b; exact ⟨_, rfl, a⟩
theorem dp2 {H : Hp} {vs : List V} {x y : PyData} (h : DpAll K H vs [x, y]) : ∃ v w, vs = [v, w] ∧ Dp K H v x ∧ Dp K H w y := by
  cases h with
  | cons a b => obtain ⟨w, rfl, c⟩ := dp1 b; exact ⟨_, w, rfl, a, c⟩
noncomputable def absI (i : Int) : Int := if i < 0 then -i else i
noncomputable def maxI (i j : Int) : Int := if j > i then j else i
theorem ev_abs {i : Int} (h : EvG K ta G s (.int i) s') : EvG K (tCB rAbs (tCons ta tNil)) G s (.int (absI i)) s' := ev_cb (ea_cons h ea_nil) fun W B ad H0 H σ vs S d Q q => by
  obtain ⟨v, rfl, d1⟩ := dp1 d
  cases d1
  exact ⟨i, rfl, q _ H S (Xb.refl) (.int _)⟩
theorem ev_max {i j : Int} (h : EvG K ta G s (.int i) s1) (h2 : EvG K tb G s1 (.int j) s') : EvG K (tCB rMx (tCons ta (tCons tb tNil))) G s (.int (maxI i j)) s' := ev_cb (ea_cons h (ea_cons h2 ea_nil)) fun W B ad H0 H σ vs S d Q q => by
  obtain ⟨v, w, rfl, d, d2⟩ := dp2 d
  cases d; cases d2
  exact ⟨i, j, rfl, q _ H S (Xb.refl) (.int _)⟩
theorem ev_lenT {xs : List PyData} (h : EvG K ta G s (.tuple xs) s') : EvG K (tCB (rLenQ K) (tCons ta tNil)) G s (.int xs.length) s' := ev_cb (ea_cons h ea_nil) fun W B ad H0 H σ vs S d Q q => by
  obtain ⟨v, rfl, d1⟩ := dp1 d
  cases d1 with
  | tup g t => exact ⟨_, _, rfl, .inr (ex_t less_ex g), by rw [dpa_len t]; exact q _ H S (Xb.refl) (.int _)⟩
theorem ev_lenL {xs : List PyData} (h : EvG K ta G s (.list xs) s') : EvG K (tCB (rLenQ K) (tCons ta tNil)) G s (.int xs.length) s' := ev_cb (ea_cons h ea_nil) fun W B ad H0 H σ vs S d Q q => by
  obtain ⟨v, rfl, d1⟩ := dp1 d
  cases d1 with
  | lst g t => exact ⟨_, _, rfl, .inl (ex_l less_ex g), by rw [dpa_len t]; exact q _ H S (Xb.refl) (.int _)⟩
theorem new_tup {W : Addr → Prop} {B : Option (Addr × Addr)} {ad : Nat → Addr} {H0 H : Hp} {σ : St} {vs : List V} {xs : List PyData} (S : Sta K W B ad H0 H σ G s) (d : DpAll K (less H (Zs W B ad G)) vs xs) {l : Addr} (hl : H l = none) {Q : VK}
    (q : ∀ v H2, Sta K W B ad H0 H2 σ G s → Xb B H H2 → Dp K (less H2 (Zs W B ad G)) v (.tuple xs) → Q v H2) : Q (.ref l) (upd H l (.tup vs)) := by
  obtain ⟨S2, e2, g⟩ := new_ex (o := .tup vs) S hl
  exact q _ _ S2 e2 (.tup (st_of g) (dpa_mono e2.l d))
theorem ev_tupL {xs : List PyData} (h : EvG K ta G s (.list xs) s') : EvG K (tCB (rTupQ K) (tCons ta tNil)) G s (.tuple xs) s' := ev_cb (ea_cons h ea_nil) fun W B ad H0 H σ vs S d Q q => by
  obtain ⟨v, rfl, d1⟩ := dp1 d
  cases d1 with
  | lst g t => exact ⟨_, _, rfl, .inl ⟨ex_l less_ex g, fun l hl => new_tup S t hl q⟩⟩
theorem dpa_bools {H : Hp} : ∀ {bs : List Bool} {vs : List V}, DpAll K H vs (bs.map PyData.bool) → vs = bs.map V.bl
  | [], _, .nil => rfl
  | b :: r, _, .cons h t => by cases h; rw [dpa_bools t]; rfl
theorem dpa_ints {H : Hp} : ∀ {bs : List Int} {vs : List V}, DpAll K H vs (bs.map PyData.int) → vs = bs.map V.int
  | [], _, .nil => rfl
  | b :: r, _, .cons h t => by cases h; rw [dpa_ints t]; rfl
theorem dpa_of_ints {H : Hp} : ∀ (bs : List Int), DpAll K H (bs.map V.int) (bs.map PyData.int)
  | [] => .nil
  | b :: r => .cons (.int b) (dpa_of_ints r)
theorem ev_all {bs : List Bool} (h : EvG K ta G s (.list (bs.map PyData.bool)) s') : EvG K (tCB (rAll K) (tCons ta tNil)) G s (.bool (bs.all id)) s' := ev_cb (ea_cons h ea_nil) fun W B ad H0 H σ vs S d Q q => by
  obtain ⟨v, rfl, d1⟩ := dp1 d
  cases d1 with
  | lst g t =>
    have e := dpa_bools t
    subst e
    exact ⟨_, bs, rfl, ex_l less_ex g, q _ H S (Xb.refl) (.bl _)⟩
/-! ### isinstance -/
noncomputable def tyN : PyData → String
  | .none => "NoneType"
  | .bool _ => "bool"
  | .int _ => "int"
  | .str _ => "str"
  | .list _ => "list"
  | .tuple _ => "tuple"
  | .dict _ => "dict"
theorem dp_ty {H : Hp} {Z : Addr → Prop} {v : V} {x : PyData} (h : Dp K (less H Z) v x) : TyX K H v (.type (tyN x)) := qt_of (by simp (disch := with_unfolding_all
  cases h with
  | non => exact .base .non
  | bl b => exact .base (.bl b)
  | int i => exact .base (.int i)
  | str i => exact .base (.str i)
  | lst g _ =>
    rcases ex_l less_ex g with (g | ⟨o, g⟩) | ⟨o, its, n, k, c, _⟩
    · exact .base (.lst g)
    · exact .base (.frz g)
    · exact .kList k c
  | tup g _ =>
    rcases ex_t less_ex g with (g | ⟨o, g⟩) | ⟨o, its, n, k, c, _⟩
    · exact .base (.tup g)
    · exact .fTuple g
    · exact .kTuple k c
  ) only [↓qt_eq])
/-- isinstance(x, T), T a built-in class -/
theorem ev_isi {n : String} {b : Bool} (h : EvG K ta G s x s') (hb : kitB (tyN x) n = some b) : EvG K (tCB (rIsi K) (tCons ta (tCons (tC (.ty n)) tNil))) G s (.bool b) s' := fun W B ad H0 H σ S Q q =>
  h W B ad H0 H σ S _ fun v H1 S1 e1 d1 => ⟨v, .ty n, _, _, b, rfl, .ty n, dp_ty d1, kit_ty hb, q _ H1 S1 e1 (.bl _)⟩
/-- isinstance(x, (S, T)) -/
theorem ev_isi2 {n m : String} {b c : Bool} (h : EvG K ta G s x s') (hb : kitB (tyN x) n = some b) (hc : kitB (tyN x) m = some c) : EvG K (tCB (rIsiT K) (tCons ta (tCons (tTup (tCons (tC (.ty n)) (tCons (tC (.ty m)) tNil))) tNil))) G s (.bool (b || c)) s' := fun W B ad H0 H σ S Q q =>
  h W B ad H0 H σ S _ fun v H1 S1 e1 d1 => ⟨by show 2 ≤ sizeLine; decide, fun p hp => by
    obtain ⟨S2, e2, g⟩ := new_ex (o := .tup [V.ty n, V.ty m]) S1 hp
    refine ⟨v, p, [.ty n, .ty m], _, [.type n, .type m], b || c, rfl, (less_some g).2, .cons (.ty n) (.cons (.ty m) .nil), dp_ty (dp_mono e2.l d1), kitAny_cons (kit_ty hb) (fun e => kitAny_cons (kit_ty hc) (fun e2 => ?_) fun e2 => ?_) (fun e => ?_), q _ _ S2 (e1.trans e2) (.bl _)⟩
    · rw [e, e2]; rfl
    · rw [e, e2]; rfl
    · rw [e]; rfl⟩
/-! ### slices -/
noncomputable def cutD (xs : List PyData) (lo hi : Option Int) : List PyData := (xs.drop (HT.sIx xs.length 0 lo)).take (HT.sIx xs.length xs.length hi - HT.sIx xs.length 0 lo)
theorem dpa_drop {H : Hp} : ∀ (n : Nat) {ds : List PyData} {vs : List V}, DpAll K H vs ds → DpAll K H (vs.drop n) (ds.drop n)
  | 0, _, _, h => h
  | n + 1, _, _, .nil => .nil
  | n + 1, _, _, .cons _ t => dpa_drop n t
theorem dpa_take {H : Hp} : ∀ (n : Nat) {ds : List PyData} {vs : List V}, DpAll K H vs ds → DpAll K H (vs.take n) (ds.take n)
  | 0, _, _, _ => .nil
  | n + 1, _, _, .nil => .nil
  | n + 1, _, _, .cons h t => .cons h (dpa_take n t)
theorem dpa_cut {H : Hp} {ds : List PyData} {vs : List V} (h : DpAll K H vs ds) (lo hi : Option Int) : DpAll K H (cutV vs lo hi) (cutD ds lo hi) := by
  unfold cutV cutD
  rw [dpa_len h]
  exact dpa_take _ (dpa_drop _ h)
end
end U

end
section
namespace U
open PySem L2 Evl
section
variable {K : Fg} {G G1 G2 : Gam} {s s1 s2 s3 s' : Bag} {ta tb tc te : TE} {t u : TT} {x y z : PyData} {tu tw tz : TS} {o : Out}
theorem Post.mono {W : Addr → Prop} {B : Option (Addr × Addr)} {H0 M M' : Hp} {D : Ends} (e : Ex M M') (h : Post K W B H0 M D o) : Post K W B H0 M' D o := qt_of (by simp (disch := with_unfolding_all
  cases o with
  | nx G s => exact fun ad H σ S x => h ad H σ S (e.trans x)
  | rt x s => exact h
  | bk G s => exact fun ad H σ S x => h ad H σ S (e.trans x)
  | ct G s => exact fun ad H σ S x => h ad H σ S (e.trans x)
  ) only [↓qt_eq])
theorem sg_seq (h : SG K tu G s (.nx G1 s1)) (k : SG K tz G1 s1 o) : SG K (tSeq tu tz) G s o := fun W B ad H0 H σ D S p =>
  h W B ad H0 H σ { D with nx := tz D } S fun ad' H' σ' S' e => k W B ad' H0 H' σ' D S' (p.mono e)
theorem sg_seqR (h : SG K tu G s (.rt x s1)) : SG K (tSeq tu tz) G s (.rt x s1) := fun W B ad H0 H σ D S p => h W B ad H0 H σ { D with nx := tz D } S p
theorem sg_next : SG K tNext G s (.nx G s) := fun W B ad H0 H σ D S p => p ad H σ S (Ex.refl _)
theorem sg_asg {i : Nat} (h : EvG K te G s x s1) : SG K (tAsg te (gName i)) G s (.nx (G.set i (.d x)) s1) := fun W B ad H0 H σ D S p =>
  h W B ad H0 H σ S _ fun v H1 S1 e1 d1 => p ad H1 _ (S1.setD d1) (e1.l.trans (less_sub fun a q => Zs.set_of (fun _ z => by cases z) q))
theorem sg_ret (h : EvG K te G s x s1) : SG K (tRet te) G s (.rt x s1) := fun W B ad H0 H σ D S p =>
  h W B ad H0 H σ S _ fun v H1 S1 e1 d1 => p v H1 S1.base S1.bag (dp_mono (less_sub fun a q => q.elim .inl fun z => .inr (.inr z)) d1)
/-- if c: return .. else on -/
theorem sg_when {b : Bool} (h : EvT K t G s b s1) (k1 : b = true → SG K (tSeq tu tz) G s1 o) (k2 : b = false → SG K tz G s1 o) : SG K (tSeq (tIfS t tu tNext) tz) G s o := fun W B ad H0 H σ D S p =>
  h W B ad H0 H σ S _ fun H1 S1 e1 => by
    cases b with
    | true => exact iteT (k1 rfl W B ad H0 H1 σ D S1 (p.mono e1.l))
    | false => exact iteF (k2 rfl W B ad H0 H1 σ D S1 (p.mono e1.l))
/-! ### targets that are tuples of names -/
/-! ### lists of one's own -/
/-- what is no longer needed is forgotten -/
inductive Wk : Gam → Gam → Prop
  | nil : Wk [] []
  | cons {e : En} {G G' : Gam} : Wk G G' → Wk (e :: G) (e :: G')
  | drop {e : En} {G G' : Gam} : Wk G G' → Wk (e :: G) (.un :: G')
theorem Wk.refl : ∀ G : Gam, Wk G G
  | [] => .nil
  | _ :: G => .cons (Wk.refl G)
theorem Wk.length : ∀ {G G' : Gam}, Wk G G' → G.length = G'.length
  | _, _, .nil => rfl
  | _, _, .cons h => congrArg (· + 1) h.length
  | _, _, .drop h => congrArg (· + 1) h.length
theorem Wk.get : ∀ {G G' : Gam} {i : Nat} {e : En}, Wk G G' → G'[i]? = some e → G[i]? = some e ∨ e = .un
  | _, _, _, _, .nil, h => by simp at h
  | _, _, 0, _, .cons _, h => .inl h
  | _, _, 0, _, .drop _, h => .inr (Option.some.inj h).symm
  | _, _, i + 1, _, .cons w, h => Wk.get (i := i) w h
  | _, _, i + 1, _, .drop w, h => Wk.get (i := i) w h
theorem Wk.own {G G' : Gam} {i : Nat} {xs : List PyData} (w : Wk G G') (h : G'[i]? = some (.own xs)) : G[i]? = some (.own xs) := (w.get h).resolve_right fun z => by cases z
theorem Wk.ex {W : Addr → Prop} {B : Option (Addr × Addr)} {ad : Nat → Addr} {H : Hp} {G G' : Gam} (w : Wk G G') : Ex (less H (Zs W B ad G)) (less H (Zs W B ad G')) := less_sub fun a q => by
  rcases q with q | ⟨i, xs, g, r⟩ | q
  · exact .inl q
  · exact .inr (.inl ⟨i, xs, w.own g, r⟩)
  · exact .inr (.inr q)
theorem Sta.wk {W : Addr → Prop} {B : Option (Addr × Addr)} {ad : Nat → Addr} {H0 H : Hp} {σ : St} {G G' : Gam} (w : Wk G G') (S : Sta K W B ad H0 H σ G s) : Sta K W B ad H0 H σ G' s where
  len := S.len.trans w.length
  at_ := fun i e h => by
    rcases w.get h with g | rfl
    · obtain ⟨o, g1, g2⟩ := S.at_ i e g
      exact ⟨o, g1, g2.mono w.ex fun _ _ _ q => q⟩
    · have il : i < σ.length := by rw [S.len, w.length]; exact (List.getElem?_eq_some_iff.mp h).1
      exact ⟨σ[i], List.getElem?_eq_getElem il, trivial⟩
  inj := fun i j xs ys g g' q => S.inj i j xs ys (w.own g) (w.own g') q
  sep := fun i xs g => S.sep i xs (w.own g)
  base := S.base
  bag := S.bag
  wd := S.wd
theorem sg_wk (h : SG K tu G s (.nx G1 s1)) (w : Wk G1 G2) : SG K tu G s (.nx G2 s1) := fun W B ad H0 H σ D S p =>
  h W B ad H0 H σ D S fun ad' H' σ' S' e => p ad' H' σ' (S'.wk w) (e.trans w.ex)
theorem sg_is {o'} (h : SG K tu G s o) (e : o = o') : SG K tu G s o' := e ▸ h
/-! ### loops -/
/-- what a turn of a loop may end with: going on -/
noncomputable def Turn (K : Fg) (tb : TS) (G : Gam) (s : Bag) (G' : Gam) (s' : Bag) : Prop := SG K tb G s (.nx G' s') ∨ SG K tb G s (.ct G' s')
theorem Turn.run {tb : TS} {G' : Gam} (h : Turn K tb G s G' s') {W : Addr → Prop} {B : Option (Addr × Addr)} {ad : Nat → Addr} {H0 H : Hp} {σ : St} {D : Ends} {N : St → Hp → Prop} (S : Sta K W B ad H0 H σ G s) (hn : D.nx = N) (hc : D.ct = N)
    (q : ∀ ad' H' σ', Sta K W B ad' H0 H' σ' G' s' → Ex (less H (Zs W B ad G)) (less H' (Zs W B ad' G')) → N σ' H') : tb D σ H := by
  rcases h with h | h
  · exact h W B ad H0 H σ D S fun ad' H' σ' S' e => by rw [hn]; exact q ad' H' σ' S' e
  · exact h W B ad H0 H σ D S fun ad' H' σ' S' e => by rw [hc]; exact q ad' H' σ' S' e
/-- while, by its states one behind the other -/
theorem sg_while {tb : TS} (GG : Nat → Gam) (SS TS' : Nat → Bag) (n : Nat) (w0 : Wk G (GG 0)) (h0 : SS 0 = s) (ht : ∀ i, i < n → EvT K t (GG i) (SS i) true (TS' i)) (hs : ∀ i, i < n → Turn K tb (GG i) (TS' i) (GG (i + 1)) (SS (i + 1)))
    (he : EvT K t (GG n) (SS n) false s') : SG K (tWhile t tb) G s (.nx (GG n) s') := fun W B ad H0 H σ D S p => by
  refine ⟨fun m σ' H' => ∃ i ad', m = n - i ∧ i ≤ n ∧ Sta K W B ad' H0 H' σ' (GG i) (SS i) ∧ Ex (less H (Zs W B ad G)) (less H' (Zs W B ad' (GG i))), ⟨n, 0, ad, rfl, Nat.zero_le _, by rw [h0]; exact S.wk w0, w0.ex⟩, ?_⟩
  rintro m σ' H' ⟨i, ad', rfl, hi, S', e'⟩
  by_cases hlt : i < n
  · refine ht i hlt W B ad' H0 H' σ' S' _ fun H2 S2 e2 => iteT ⟨fun σ3 H3 => ∃ ad3, Sta K W B ad3 H0 H3 σ3 (GG (i + 1)) (SS (i + 1)) ∧ Ex (less H (Zs W B ad G)) (less H3 (Zs W B ad3 (GG (i + 1)))), ?_, ?_⟩
    · rintro σ3 H3 ⟨ad3, S3, e3⟩
      exact ⟨n - (i + 1), by omega, i + 1, ad3, rfl, hlt, S3, e3⟩
    · exact (hs i hlt).run S2 rfl rfl fun ad3 H3 σ3 S3 e3 => ⟨ad3, S3, (e'.trans e2.l).trans e3⟩
  · have en : i = n := by omega
    subst en
    exact he W B ad' H0 H' σ' S' _ fun H2 S2 e2 => iteF (p ad' H2 σ' S2 (e'.trans e2.l))
end
end U

end
section
namespace U
open PySem L2 Evl
/-! ### what is walked, and into which names -/
noncomputable def ItOk (K : Fg) (J : It) (ds : List PyData) (M : Hp) : Prop := ∀ (H' : Hp) (Z : Addr → Prop), (∀ a, Z a → ∃ o, H' a = some o) → Ex M (less H' Z) → ∀ i,
  (∀ d, ds[i]? = some d → J.go i H') ∧ (ds.length ≤ i → J.stop i H') ∧ ∀ x H'', J.yld i H' x H'' → Ex H' H'' ∧ ∀ d, ds[i]? = some d → Dp K (less H'' Z) x d
noncomputable def Src (K : Fg) (wi : TI) (G : Gam) (s : Bag) (ds : List PyData) (s1 : Bag) : Prop :=
  ∀ W B ad H0 H σ, Sta K W B ad H0 H σ G s → ∀ R : It → Hp → Prop, (∀ J H1, Sta K W B ad H0 H1 σ G s1 → Xb B H H1 → ItOk K J ds (less H1 (Zs W B ad G)) → R J H1) → wi σ H R
noncomputable def Off (vs : List Nat) (G G' : Gam) : Prop := G.length = G'.length ∧ (∀ i, i ∉ vs → G'[i]? = G[i]?) ∧ ∀ i xs, i ∈ vs → G'[i]? ≠ some (.own xs)
noncomputable def Tgt (K : Fg) (g : TG) (vs : List Nat) (G : Gam) (x : PyData) (G' : Gam) : Prop := Off vs G G' ∧ ∀ W B ad H0 H σ s v, Sta K W B ad H0 H σ G s → Dp K (less H (Zs W B ad G)) v x → ∀ Q : St → Hp → Prop,
  (∀ σ', Sta K W B ad H0 H σ' G' s → Ex (less H (Zs W B ad G)) (less H (Zs W B ad G')) → wipe σ' vs = wipe σ vs → Q σ' H) → g v σ H Q
section
variable {K : Fg} {G G' G1 G2 : Gam} {s s1 s2 s3 s' : Bag} {ta tb tc te : TE} {t u : TT} {x y z : PyData} {tu tw tz : TS} {o : Out}
noncomputable def rngD (lo : Int) (n : Nat) : List PyData := (List.range n).map fun i : Nat => .int (lo + (i : Int))
theorem rngD_len (lo : Int) (n : Nat) : (rngD lo n).length = n := by simp [rngD]
theorem rngD_get {lo : Int} {n i : Nat} (h : i < n) : (rngD lo n)[i]? = some (.int (lo + (i : Int))) := by
  unfold rngD
  rw [List.getElem?_map, List.getElem?_range h]
  rfl
theorem it_rng {lo : Int} {n : Nat} {M : Hp} : ItOk K (Itr lo n) (rngD lo n) M := fun H' Z hz e i => by
  refine ⟨fun d hd => ?_, fun hl => ?_, fun x H'' hy => ?_⟩
  · have := (List.getElem?_eq_some_iff.mp hd).1
    rw [rngD_len] at this
    exact this
  · rw [rngD_len] at hl
    exact hl
  · obtain ⟨rfl, rfl⟩ := hy
    refine ⟨Ex.refl _, fun d hd => ?_⟩
    have hl := (List.getElem?_eq_some_iff.mp hd).1
    rw [rngD_len] at hl
    rw [rngD_get hl] at hd
    cases hd
    exact .int _
theorem src_rng1 {ta : TA} {n : Int} (h : EvA K ta G s [.int n] s1) (hn : -1000000 ≤ n ∧ n ≤ 1000000) : Src K (iRng1 ta) G s (rngD 0 n.toNat) s1 := fun W B ad H0 H σ S R q => h W B ad H0 H σ S _ fun vs H1 S1 e1 d1 => by
  obtain ⟨v, rfl, d⟩ := dp1 d1
  cases d
  exact ⟨n, rfl, by omega, by omega, q _ H1 S1 e1 it_rng⟩
/-! ### targets -/
theorem tgt_name {j : Nat} : Tgt K (gName j) [j] G x (G.set j (.d x)) := by
  refine ⟨⟨by rw [List.length_set], fun i hi => ?_, fun i xs hi h => ?_⟩, fun W B ad H0 H σ s v S d Q q => q _ (S.setD d) (less_sub fun a q => Zs.set_of (fun _ z => by cases z) q) ?_⟩
  · rw [List.getElem?_set_ne (fun z => hi (by rw [z]; exact List.mem_singleton.mpr rfl))]
  · rcases get_set h with ⟨rfl, l, e⟩ | ⟨z, g⟩
    · cases e
    · exact z (List.mem_singleton.mp hi).symm
  · show (List.set (List.set σ j (some v)) j none) = List.set σ j none
    rw [List.set_set]
theorem wipe_set : ∀ {vs : List Nat} {σ : St} {i : Nat} {o : Option V}, i ∈ vs → wipe (σ.set i o) vs = wipe σ vs
  | v :: vs, σ, i, o, h => by
    show (wipe (σ.set i o) vs).set v none = (wipe σ vs).set v none
    by_cases hv : i ∈ vs
    · rw [wipe_set hv]
    · have e : i = v := (List.mem_cons.mp h).resolve_right hv
      subst e
      have c : ∀ (vs : List Nat) (σ : St), i ∉ vs → wipe (σ.set i o) vs = (wipe σ vs).set i o := fun vs => by
        induction vs with
        | nil => exact fun _ _ => rfl
        | cons w vs ih =>
          intro σ hn
          show (wipe (σ.set i o) vs).set w none = ((wipe σ vs).set w none).set i o
          rw [ih σ (fun z => hn (List.mem_cons_of_mem _ z)), List.set_comm _ _ (fun z => hn (by rw [z]; exact List.mem_cons_self))]
      rw [c vs σ hv, List.set_set]
/-! ### for, over anything -/
/-! ### comprehensions -/
theorem wipe_get : ∀ {vs : List Nat} {σ : St} {i : Nat}, i ∉ vs → (wipe σ vs)[i]? = σ[i]?
  | [], _, _, _ => rfl
  | v :: vs, σ, i, h => by
    show ((wipe σ vs).set v none)[i]? = _
    rw [List.getElem?_set_ne (fun z => h (by rw [z]; exact List.mem_cons_self)), wipe_get (fun z => h (List.mem_cons_of_mem _ z))]
theorem wipe_wipe {vs : List Nat} {σ : St} : wipe (wipe σ vs) vs = wipe σ vs := qt_of (by simp (disch := with_unfolding_all
  have key : ∀ us : List Nat, (∀ i ∈ us, i ∈ vs) → wipe (wipe σ us) vs = wipe σ vs := fun us => by
    induction us with
    | nil => exact fun _ => rfl
    | cons u us ih =>
      intro h
      show wipe ((wipe σ us).set u none) vs = wipe σ vs
      rw [wipe_set (h u List.mem_cons_self), ih fun i hi => h i (List.mem_cons_of_mem _ hi)]
  exact key vs fun _ h => h
  ) only [↓qt_eq])
theorem Sta.slots {W : Addr → Prop} {B : Option (Addr × Addr)} {ad : Nat → Addr} {H0 H : Hp} {σ σ' : St} {vs : List Nat} (S : Sta K W B ad H0 H σ G s) (ho : Off vs G G') (hu : ∀ i e, i ∈ vs → G'[i]? = some e → e = .un) (hg : ∀ i xs, i ∈ vs → G[i]? ≠ some (.own xs)) (hw : wipe σ vs = wipe σ' vs) : Sta K W B ad H0 H σ' G' s := qt_of (by simp (disch := with_unfolding_all
  have hl : σ.length = σ'.length := by
    have := congrArg List.length hw
    rw [wipe_length, wipe_length] at this
    exact this
  have zz : ∀ a, Zs W B ad G' a ↔ Zs W B ad G a := fun a => by
    constructor
    · rintro (z | ⟨i, xs, g, r⟩ | z)
      · exact .inl z
      · by_cases hi : i ∈ vs
        · exact absurd (hu i _ hi g) (fun e => by cases e)
        · rw [ho.2.1 i hi] at g; exact .inr (.inl ⟨i, xs, g, r⟩)
      · exact .inr (.inr z)
    · rintro (z | ⟨i, xs, g, r⟩ | z)
      · exact .inl z
      · by_cases hi : i ∈ vs
        · exact absurd g (hg i xs hi)
        · exact .inr (.inl ⟨i, xs, by rw [ho.2.1 i hi]; exact g, r⟩)
      · exact .inr (.inr z)
  have zl : Zs W B ad G' = Zs W B ad G := funext fun a => propext (zz a)
  have own : ∀ (i : Nat) (xs : List PyData), G'[i]? = some (En.own xs) → G[i]? = some (En.own xs) := fun i xs g => by
    by_cases hi : i ∈ vs
    · exact absurd (hu i _ hi g) (fun e => by cases e)
    · rw [ho.2.1 i hi] at g; exact g
  refine ⟨hl ▸ (S.len.trans ho.1), fun i e g => ?_, fun i j xs ys g g' q => S.inj i j xs ys (own i xs g) (own j ys g') q, fun i xs g => S.sep i xs (own i xs g), S.base, S.bag, S.wd⟩
  by_cases hi : i ∈ vs
  · have e := hu i e hi g
    subst e
    have il : i < σ'.length := by rw [← hl, S.len, ho.1]; exact (List.getElem?_eq_some_iff.mp g).1
    exact ⟨σ'[i], List.getElem?_eq_getElem il, trivial⟩
  · rw [ho.2.1 i hi] at g
    obtain ⟨o, g1, g2⟩ := S.at_ i e g
    refine ⟨o, ?_, by rw [zl]; exact g2⟩
    rw [← wipe_get hi, ← hw, wipe_get hi]
    exact g1
  ) only [↓qt_eq])
theorem range_fm_succ (f : Nat → Option PyData) (i : Nat) : (List.range (i + 1)).filterMap f = (List.range i).filterMap f ++ (f i).toList := by
  rw [List.range_succ, List.filterMap_append]
  cases h : f i <;> simp [h]
/-- [elt for target in .. if ..]: f tells what each turn gives -/
theorem ev_lc {wi : TI} {g : TG} {vs : List Nat} {tt : TT} {ds : List PyData} (h : Src K wi G s ds s1) (f : Nat → Option PyData) (SS : Nat → Bag) (h0 : SS 0 = s1) (hu : ∀ i e, i ∈ vs → G[i]? = some e → e = .un) (hz : ds.length ≤ 16000000)
    (hs : ∀ i x, ds[i]? = some x → ∃ Gt s2, Tgt K g vs G x Gt ∧ EvT K tt Gt (SS i) (f i).isSome s2 ∧ (∀ y, f i = some y → EvG K te Gt s2 y (SS (i + 1))) ∧ (f i = none → s2 = SS (i + 1))) :
    EvG K (tLc wi g tt te vs) G s (.list ((List.range ds.length).filterMap f)) (SS ds.length) := fun W B ad H0 H σ S Q q =>
  h W B ad H0 H σ S _ fun J H1 S1 e1 ok Dl hD => by
    have hgu : ∀ i xs, i ∈ vs → G[i]? ≠ some (.own xs) := fun i xs hi g => by cases hu i _ hi g
    obtain ⟨L0, el0⟩ := S1.lend (o := .lst []) hD
    have fr := S1.fresh hD
    have npD : ¬ Zs W B ad G Dl := by
      rintro (z | ⟨i, xs, g, r⟩ | z)
      · obtain ⟨o, z⟩ := S1.wd _ z
        rw [hD] at z; cases z
      · obtain ⟨_, _, _, vs, h1, _⟩ := S1.at_ i _ g
        rw [← r, hD] at h1; cases h1
      · exact fr.2 z
    refine ⟨fun i m H' => m = ds.length - i ∧ i ≤ ds.length ∧ Sta K (fun a => W a ∨ a = Dl) B ad H0 H' σ G (SS i) ∧ Ex (less H1 (Zs W B ad G)) (less H' (Zs (fun a => W a ∨ a = Dl) B ad G)) ∧ Xb B H1 H' ∧
      ∃ acc, H' Dl = some (.lst acc) ∧ DpAll K (less H' (Zs (fun a => W a ∨ a = Dl) B ad G)) acc ((List.range i).filterMap f), ⟨ds.length, rfl, Nat.zero_le _, by rw [h0]; exact L0, by rw [el0]; exact Ex.refl _, .of (Ex.new hD), [], upd_same, .nil⟩, ?_⟩
    rintro i m H' ⟨rfl, hi, S', e', xb, acc, ha, hd⟩
    obtain ⟨k1, k2, k3⟩ := ok H' (Zs (fun a => W a ∨ a = Dl) B ad G) S'.there e' i
    by_cases hlt : i < ds.length
    · have hx : ds[i]? = some ds[i] := List.getElem?_eq_getElem hlt
      obtain ⟨Gt, s2, tg, ht, hy, hn⟩ := hs i _ hx
      refine .inr ⟨k1 _ hx, fun H3 => Sta K (fun a => W a ∨ a = Dl) B ad H0 H3 σ G (SS (i + 1)) ∧ Ex (less H1 (Zs W B ad G)) (less H3 (Zs (fun a => W a ∨ a = Dl) B ad G)) ∧ Xb B H1 H3 ∧
        ∃ acc, H3 Dl = some (.lst acc) ∧ DpAll K (less H3 (Zs (fun a => W a ∨ a = Dl) B ad G)) acc ((List.range (i + 1)).filterMap f), fun H3 h3 => ⟨ds.length - (i + 1), by omega, rfl, hlt, h3⟩, fun v H'' hyl => ?_⟩
      obtain ⟨ex, dx⟩ := k3 v H'' hyl
      have S2 := (S'.ext ex).slots (σ' := wipe σ vs) (G' := G) (vs := vs) ⟨rfl, fun _ _ => rfl, hgu⟩ hu hgu wipe_wipe.symm
      refine tg.2 _ B ad H0 H'' _ (SS i) v S2 (dx _ hx) _ fun σ2 S3 e3 ew => ⟨by rw [ew, wipe_wipe], ?_⟩
      have eZ : Zs (fun a => W a ∨ a = Dl) B ad Gt = Zs (fun a => W a ∨ a = Dl) B ad G := funext fun a => propext (by
        have own : ∀ (i : Nat) (xs : List PyData), Gt[i]? = some (En.own xs) ↔ G[i]? = some (En.own xs) := fun i xs => by
          by_cases hi : i ∈ vs
          · exact ⟨fun g => absurd g (tg.1.2.2 i xs hi), fun g => absurd g (hgu i xs hi)⟩
          · rw [tg.1.2.1 i hi]
        constructor
        · rintro (z | ⟨i, xs, g, r⟩ | z)
          · exact .inl z
          · exact .inr (.inl ⟨i, xs, (own i xs).mp g, r⟩)
          · exact .inr (.inr z)
        · rintro (z | ⟨i, xs, g, r⟩ | z)
          · exact .inl z
          · exact .inr (.inl ⟨i, xs, (own i xs).mpr g, r⟩)
          · exact .inr (.inr z))
      have back : ∀ {H5 : Hp} {b : Bag}, Sta K (fun a => W a ∨ a = Dl) B ad H0 H5 σ2 Gt b → Sta K (fun a => W a ∨ a = Dl) B ad H0 H5 σ G b := fun {H5 b} S5 =>
        S5.slots (G' := G) (vs := vs) ⟨tg.1.1.symm, fun i hi => (tg.1.2.1 i hi).symm, hgu⟩ hu tg.1.2.2 (by rw [ew, wipe_wipe])
      have hB : ¬ InB B Dl := fr.2
      have ha2 : H'' Dl = some (.lst acc) := ex _ _ ha
      have al : acc.length < sizeLine := by
        have h1 := dpa_len hd
        have h2 := List.length_filterMap_le f (List.range i)
        rw [List.length_range] at h2
        exact Nat.lt_of_lt_of_le (show acc.length < 16777216 by omega) (by decide)
      refine ht _ B ad H0 H'' σ2 S3 _ fun H3 S4 e4 => ?_
      have e5 : Ex (less H' (Zs (fun a => W a ∨ a = Dl) B ad G)) (less H3 (Zs (fun a => W a ∨ a = Dl) B ad G)) := (less_mono ex).trans e4.l
      cases hf : (f i) with
      | none =>
        rw [hn hf] at S4
        refine iteF ⟨back S4, e'.trans e5, (xb.trans (.of ex)).trans e4, acc, e4 _ _ ha2 hB, ?_⟩
        rw [range_fm_succ, hf]
        show DpAll K _ acc (_ ++ [])
        rw [List.append_nil]
        exact dpa_mono e5 hd
      | some y =>
        refine iteT ?_
        refine hy y hf _ B ad H0 H3 σ2 S4 _ fun w H4 S5 e6 dw => ?_
        rw [eZ] at dw
        have S6 := back S5
        have h0 : H0 Dl = none := fr.1
        obtain ⟨S7, el7⟩ := S6.foreign (o := .lst (acc ++ [w])) (p := Dl) (.inr rfl) h0 hB
        refine ⟨acc, e6 _ _ (e4 _ _ ha2 hB) hB, al, S7, ?_, ?_, acc ++ [w], upd_same, ?_⟩
        · rw [el7]
          exact e'.trans (e5.trans e6.l)
        · intro a o g n
          have na : a ≠ Dl := ne_of_none g hD
          rw [upd_ne na]
          exact ((((xb.trans (.of ex)).trans e4).trans e6) a o g n)
        · rw [el7, range_fm_succ, hf]
          exact dpa_app (dpa_mono (e5.trans e6.l) hd) (.cons dw .nil)
    · have en : i = ds.length := by omega
      subst en
      obtain ⟨S5, e5⟩ := S'.back
      refine .inl ⟨k2 (Nat.le_refl _), q _ H' S5 (e1.trans ?_) (.lst (sq_of (less_of npD ha)) (dpa_mono e5 hd))⟩
      exact fun a o g n => xb a o g n
end
end U

end
section
namespace U
open PySem PyProof.Rows L2 Evl
section
variable {K : Fg} {G G' G1 G2 : Gam} {s s1 s2 s3 s' : Bag} {ta tb tc te : TE} {t u : TT} {x y z : PyData} {tu tw tz : TS} {o : Out}
theorem range_fm_map {ds : List PyData} (F : PyData → PyData) : (List.range ds.length).filterMap (fun i => (ds[i]?).map F) = ds.map F := qt_of (by simp (disch := with_unfolding_all
  have key : ∀ (l : List PyData), (List.range l.length).filterMap (fun i => l[i]?) = l := fun l => by
    induction l with
    | nil => rfl
    | cons a l ih =>
      rw [List.length_cons, List.range_succ_eq_map, List.filterMap_cons]
      simp only [List.getElem?_cons_zero, List.filterMap_map]
      refine congrArg (a :: ·) ?_
      exact ih
  have h : (fun i : Nat => (ds[i]?).map F) = fun i : Nat => (ds.map F)[i]? := by
    funext i
    rw [List.getElem?_map]
  rw [h]
  have e := key (ds.map F)
  rw [List.length_map] at e
  exact e
  ) only [↓qt_eq])
theorem et_yes : EvT K tYes G s true s := fun W B ad H0 H σ S Q q => q H S Xb.refl
/-- [elt for target in ..], nothing drawn, no test -/
theorem ev_lcM {wi : TI} {g : TG} {vs : List Nat} {ds : List PyData} (h : Src K wi G s ds s1) (F : PyData → PyData) (hu : ∀ i e, i ∈ vs → G[i]? = some e → e = .un) (hz : ds.length ≤ 16000000)
    (hs : ∀ x, x ∈ ds → ∃ Gt, Tgt K g vs G x Gt ∧ EvG K te Gt s1 (F x) s1) : EvG K (tLc wi g tYes te vs) G s (.list (ds.map F)) s1 := qt_of (by simp (disch := with_unfolding_all
  have k := ev_lc (K := K) (te := te) (tt := tYes) h (fun i => (ds[i]?).map F) (fun _ => s1) rfl hu hz fun i x hx => by
    obtain ⟨Gt, a, b⟩ := hs x (List.mem_of_getElem? hx)
    refine ⟨Gt, s1, a, ?_, fun y hy => ?_, fun hn => rfl⟩
    · rw [hx]; exact et_yes
    · rw [hx] at hy
      cases hy
      exact b
  rw [range_fm_map] at k
  exact k
  ) only [↓qt_eq])
/-! ### deep equality -/
end
/-! ### defs -/
section
variable {Pg : Program} {w : World} {K : Fg} {mg : Str → Option Value} {base : Heap}
noncomputable def frame (n : Nat) (ds : List PyData) : Gam := ds.map .d ++ List.replicate (n - ds.length) .un
theorem frame_get {n i : Nat} {ds : List PyData} {e : En} (h : (frame n ds)[i]? = some e) : (∃ d, ds[i]? = some d ∧ e = .d d) ∨ (ds.length ≤ i ∧ e = .un) := qt_of (by simp (disch := with_unfolding_all
  unfold frame at h
  by_cases hi : i < ds.length
  · rw [List.getElem?_append_left (by rw [List.length_map]; exact hi), List.getElem?_map, List.getElem?_eq_getElem hi] at h
    exact .inl ⟨ds[i], List.getElem?_eq_getElem hi, (Option.some.inj h).symm⟩
  · have hi : ds.length ≤ i := by omega
    rw [List.getElem?_append_right (by rw [List.length_map]; exact hi)] at h
    exact .inr ⟨hi, (List.mem_replicate.mp (List.mem_of_getElem? h)).2⟩
  ) only [↓qt_eq])
theorem start_get {N : List Str} {vs : List V} {i : Nat} {v : V} (h : vs[i]? = some v) : (L2.start N vs)[i]? = some (some v) := by
  unfold L2.start
  have hi := (List.getElem?_eq_some_iff.mp h).1
  rw [List.getElem?_append_left (by rw [List.length_map]; exact hi), List.getElem?_map, h]
  rfl
theorem start_len {N : List Str} {vs : List V} : (L2.start N vs).length = vs.length + (N.length - vs.length) := by
  unfold L2.start
  rw [List.length_append, List.length_map, List.length_replicate]
/-- the state at a def's entry -/
theorem sta0 {N : List Str} {W : Addr → Prop} {H : Hp} {vs : List V} {ds : List PyData} (hW : ∀ a, W a → ∃ o, H a = some o) (hd : DpAll K (less H W) vs ds) (b : Bag) : Sta K W none (fun _ => 0) H H (L2.start N vs) (frame N.length ds) b := qt_of (by simp (disch := with_unfolding_all
  have no : ∀ (i : Nat) (xs : List PyData), (frame N.length ds)[i]? ≠ some (En.own xs) := fun i xs h => by
    rcases frame_get h with ⟨d, _, e⟩ | ⟨_, e⟩ <;> cases e
  have zz : ∀ a, Zs W none (fun _ => 0) (frame N.length ds) a → W a := by
    rintro a (z | ⟨i, xs, g, _⟩ | ⟨b, c, z, _⟩)
    · exact z
    · exact absurd g (no i xs)
    · cases z
  refine ⟨?_, fun i e h => ?_, fun i j xs ys g => absurd g (no i xs), fun i xs g => absurd g (no i xs), fun a o h _ => h, trivial, hW⟩
  · rw [start_len, dpa_len hd]
    unfold frame
    rw [List.length_append, List.length_map, List.length_replicate]
  · rcases frame_get h with ⟨d, hi, rfl⟩ | ⟨hi, rfl⟩
    · obtain ⟨v, hv, dv⟩ := dpa_get hd hi
      exact ⟨some v, start_get hv, v, rfl, dp_mono (less_sub zz) dv⟩
    · have il : i < (L2.start N vs).length := by
        rw [start_len, dpa_len hd]
        have := (List.getElem?_eq_some_iff.mp h).1
        unfold frame at this
        rw [List.length_append, List.length_map, List.length_replicate] at this
        exact this
      exact ⟨(L2.start N vs)[i], List.getElem?_eq_getElem il, trivial⟩
  ) only [↓qt_eq])
/-- a def of data -/
theorem okP {x qual : Str} {st : Stmt} {f : Addr} {fd : FuncData} {N ps : List Str} {k : Nat} {P : List PyData → PyData → Prop} (F : Fun K x qual st f fd) (S : FnScope N ps (defScope st)) (hl : ∀ ds r, P ds r → ds.length = ps.length)
    (hb : ∀ ds r, P ds r → ∀ (cdv : Value) (A : Around) (outer : List Env) (sh : Shared) (H : Hp) (E : XK), Room k (A.deeper (envOfC qual (defScope st) sh.heap.objs.size f cdv)) →
      ∃ t, PSs (cxOf CX0 Pg w K mg base N qual (defScope st) f cdv A outer sh H E).nox (defBody st) t ∧ ∀ b, SG K t (frame N.length ds) b (.rt r b)) : FnOk Pg w K mg base CX0 (k + 1) f fd ps (spP K P) := qt_of (by simp (disch := with_unfolding_all
  refine F.ok S (fun vs H Q E h => ?_) (fun cdv A outer sh H vs Q E hr h => ?_)
  · obtain ⟨W, ds, r, _, hd, hp, _⟩ := h
    rw [dpa_len hd]
    exact hl ds r hp
  · obtain ⟨W, ds, r, hW, hd, hp, q⟩ := h
    obtain ⟨t, ht, g⟩ := hb ds r hp cdv A outer sh H E hr
    refine ⟨t, ht, g ⟨[], 0, 0⟩ W none (fun _ => 0) H H _ _ (sta0 hW hd _) fun v H' e _ d => q v H' (fun a o h => e a o h (fun ⟨_, _, z, _⟩ => by cases z)) (dp_mono (less_sub fun a z => .inl z) d)⟩
  ) only [↓qt_eq])
theorem staB {N : List Str} {W : Addr → Prop} {H : Hp} {b c : Addr} {vs : List V} {ds : List PyData} {s : Bag} (hW : ∀ a, W a → ∃ o, H a = some o) (hB : BagAt H (some (b, c)) s) (hd : DpAll K (less H fun a => W a ∨ InB (some (b, c)) a) vs ds) :
    Sta K W (some (b, c)) (fun _ => 0) H H (L2.start N (.ref b :: vs)) (.bag :: frame (N.length - 1) ds) s := qt_of (by simp (disch := with_unfolding_all
  have no : ∀ (i : Nat) (xs : List PyData), (En.bag :: frame (N.length - 1) ds)[i]? ≠ some (En.own xs) := fun i xs h => by
    cases i with
    | zero => cases h
    | succ i => rcases frame_get h with ⟨d, _, e⟩ | ⟨_, e⟩ <;> cases e
  have zz : ∀ a, Zs W (some (b, c)) (fun _ => 0) (En.bag :: frame (N.length - 1) ds) a → W a ∨ InB (some (b, c)) a := by
    rintro a (z | ⟨i, xs, g, _⟩ | z)
    · exact .inl z
    · exact absurd g (no i xs)
    · exact .inr z
  have ln : (L2.start N (.ref b :: vs)).length = (En.bag :: frame (N.length - 1) ds).length := by
    rw [start_len, List.length_cons, List.length_cons, dpa_len hd]
    unfold frame
    rw [List.length_append, List.length_map, List.length_replicate]
    omega
  refine ⟨ln, fun i e h => ?_, fun i j xs ys g => absurd g (no i xs), fun i xs g => absurd g (no i xs), fun a o h _ => h, hB, hW⟩
  cases i with
  | zero =>
    cases h
    exact ⟨some (.ref b), rfl, b, c, rfl, rfl⟩
  | succ i =>
    rcases frame_get h with ⟨d, hi, rfl⟩ | ⟨hi, rfl⟩
    · obtain ⟨v, hv, dv⟩ := dpa_get hd hi
      exact ⟨some v, start_get (show (V.ref b :: vs)[i + 1]? = some v from hv), v, rfl, dp_mono (less_sub zz) dv⟩
    · have il : i + 1 < (L2.start N (.ref b :: vs)).length := by
        rw [ln]; exact (List.getElem?_eq_some_iff.mp h).1
      exact ⟨_, List.getElem?_eq_getElem il, trivial⟩
  ) only [↓qt_eq])
/-- a def that draws -/
theorem okB {x qual : Str} {st : Stmt} {f : Addr} {fd : FuncData} {N ps : List Str} {k : Nat} {P : Bag → List PyData → PyData → Bag → Prop} (F : Fun K x qual st f fd) (S : FnScope N ps (defScope st)) (hl : ∀ s ds r s', P s ds r s' → ds.length + 1 = ps.length)
    (hb : ∀ s ds r s', P s ds r s' → s.ok → ∀ (cdv : Value) (A : Around) (outer : List Env) (sh : Shared) (H : Hp) (E : XK), Room k (A.deeper (envOfC qual (defScope st) sh.heap.objs.size f cdv)) →
      ∃ t, PSs (cxOf CX0 Pg w K mg base N qual (defScope st) f cdv A outer sh H E).nox (defBody st) t ∧ SG K t (.bag :: frame (N.length - 1) ds) s (.rt r s')) : FnOk Pg w K mg base CX0 (k + 1) f fd ps (spB K P) := qt_of (by simp (disch := with_unfolding_all
  refine F.ok S (fun vs H Q E h => ?_) (fun cdv A outer sh H vs Q E hr h => ?_)
  · obtain ⟨W, b, c, us, s, ds, r, s', _, rfl, _, hd, hp, _⟩ := h
    rw [List.length_cons, dpa_len hd]
    exact hl s ds r s' hp
  · obtain ⟨W, b, c, us, s, ds, r, s', hW, rfl, hB, hd, hp, q⟩ := h
    obtain ⟨t, ht, g⟩ := hb s ds r s' hp hB.2.2 cdv A outer sh H E hr
    exact ⟨t, ht, g W (some (b, c)) (fun _ => 0) H H _ _ (staB hW hB hd) fun v H' e hb d => q v H' e hb d⟩
  ) only [↓qt_eq])
/-! ### the law itself: the script, the bag made of it, the rest -/
noncomputable def bag0 (ns : List Int) : Bag := ⟨ns, 0, 20011⟩
noncomputable def spBag (K : Fg) : Sp := fun vs H Q _ => ∃ (W : Addr → Prop) (ns : List Int), (∀ a, W a → ∃ o, H a = some o) ∧ DpAll K (less H W) vs [.list (ns.map PyData.int)] ∧ ns.length ≤ 63 ∧
  ∀ b c H', Ex H H' → H b = none → H c = none → BagAt H' (some (b, c)) (bag0 ns) → Q (.ref b) H'
noncomputable def PLaw : List PyData → PyData → Prop := fun ds r => ∃ ns : List Int, ds = [.list (ns.map PyData.int)] ∧ ns.length ≤ 63 ∧ r = .bool true
end
end U

end
section
namespace U
open PySem PyProof.Rows L2 Evl
/-! ### the mathematics of fractions -/
noncomputable abbrev Fr := Int × Int
noncomputable abbrev fr (p : Fr) : PyData := .tuple [.int p.1, .int p.2]
noncomputable def gN (a b : Int) : Nat := max (Nat.gcd a.natAbs b.natAbs) 1
noncomputable def gI (a b : Int) : Int := (gN a b : Int)
theorem gI_pos (a b : Int) : 0 < gI a b := by
  unfold gI gN
  have : 1 ≤ max (Nat.gcd a.natAbs b.natAbs) 1 := Nat.le_max_right _ _
  omega
/-- the states of Euclid's loop -/
noncomputable def eu (x y : Nat) : Nat → Nat × Nat
  | 0 => (x, y)
  | i + 1 => ((eu x y i).2, (eu x y i).1 % (eu x y i).2)
theorem eu_shift (x y : Nat) : ∀ i, eu x y (i + 1) = eu y (x % y) i
  | 0 => rfl
  | i + 1 => by
    show ((eu x y (i + 1)).2, (eu x y (i + 1)).1 % (eu x y (i + 1)).2) = _
    rw [eu_shift x y i]
    rfl
theorem eu_end : ∀ (y x : Nat), ∃ n, eu x y n = (Nat.gcd x y, 0) ∧ ∀ i, i < n → 0 < (eu x y i).2 := fun y => by
  induction y using Nat.strongRecOn with
  | ind y ih =>
    intro x
    by_cases hy : y = 0
    · subst hy
      exact ⟨0, by show (x, 0) = _; rw [Nat.gcd_zero_right], fun i hi => absurd hi (Nat.not_lt_zero _)⟩
    · obtain ⟨n, h1, h2⟩ := ih (x % y) (Nat.mod_lt _ (Nat.pos_of_ne_zero hy)) y
      refine ⟨n + 1, ?_, fun i hi => ?_⟩
      · rw [eu_shift, h1, Nat.gcd_comm x y, Nat.gcd_rec y x]
        rw [Nat.gcd_comm]
      · cases i with
        | zero => exact Nat.pos_of_ne_zero hy
        | succ i =>
          rw [eu_shift]
          exact h2 i (by omega)
theorem fmod_nat (a b : Nat) : Int.fmod (a : Int) (b : Int) = ((a % b : Nat) : Int) := by
  rw [Int.fmod_eq_emod_of_nonneg _ (Int.natCast_nonneg b)]
  rfl
theorem absI_nat (a : Int) : absI a = (a.natAbs : Int) := by
  unfold absI
  split <;> omega
noncomputable def Bd (n : Nat) (a : Int) : Prop := a.natAbs < 2 ^ n
noncomputable def Sz (n : Nat) (p : Fr) : Prop := Bd n p.1 ∧ Bd n p.2
theorem Bd.mono {n m : Nat} {a : Int} (h : Bd n a) (l : n ≤ m) : Bd m a := Nat.lt_of_lt_of_le h (Nat.pow_le_pow_right (by decide) l)
theorem Sz.mono {n m : Nat} {p : Fr} (h : Sz n p) (l : n ≤ m) : Sz m p := ⟨h.1.mono l, h.2.mono l⟩
theorem Bd.cm {n m : Nat} {a b : Int} (ha : Bd n a) (hb : Bd m b) (h : n + m + 2 ≤ 1000000) : CMulW a b :=
  wide_mul (ha.mono (Nat.le_succ n)) (hb.mono (Nat.le_succ m)) (Nat.succ_pos _) (Nat.succ_pos _) (by omega)
theorem Bd.neg {n : Nat} {a : Int} (ha : Bd n a) : Bd n (-a) := by
  unfold Bd at *
  omega
theorem Bd.fdiv {n : Nat} {a : Int} (b : Int) (ha : Bd n a) : Bd n (a.fdiv b) := Nat.lt_of_le_of_lt (Int.natAbs_fdiv_le_natAbs a b) ha
theorem gN_le {n : Nat} {a b : Int} (ha : Bd n a) (hb : Bd n b) : gN a b ≤ 2 ^ n := qt_of (by simp (disch := with_unfolding_all
  unfold gN
  have h1 : 1 ≤ 2 ^ n := Nat.one_le_two_pow
  refine Nat.max_le.mpr ⟨?_, h1⟩
  by_cases h0 : a.natAbs = 0
  · rw [h0, Nat.gcd_zero_left]
    exact Nat.le_of_lt hb
  · exact Nat.le_trans (Nat.gcd_le_left _ (Nat.pos_of_ne_zero h0)) (Nat.le_of_lt ha)
  ) only [↓qt_eq])
theorem Bd.g {n : Nat} {a b : Int} (ha : Bd n a) (hb : Bd n b) : Bd (n + 1) (gI a b) := by
  have h := gN_le ha hb
  have h1 : 1 ≤ 2 ^ n := Nat.one_le_two_pow
  unfold Bd gI
  rw [Nat.pow_succ, Int.natAbs_natCast]
  omega
theorem Bd.dv {n : Nat} {i j : Int} (h0 : j ≠ 0) (h : Bd n j) (hn : n ≤ 8000) : CDvX i j := by
  refine ⟨h0, ?_⟩
  have h2 : j.natAbs < 2 ^ (n + 1) := h.mono (Nat.le_succ n)
  have := PySem.Flt.log2_lt_of (Nat.succ_pos n) h2
  omega
/-! ### gcd, the law's own and the program's -/
theorem max_gN (a b : Int) : maxI 1 (Nat.gcd a.natAbs b.natAbs : Nat) = gI a b := by
  unfold maxI gI gN
  rw [Nat.max_def]
  split <;> split <;> omega
noncomputable def P_gcd : List PyData → PyData → Prop := fun ds r => ∃ a b : Int, ds = [.int a, .int b] ∧ r = .int (gI a b)
/-- above / below as the law makes it -/
noncomputable def fracF (a b : Int) : Fr := (a.fdiv (if b < 0 then -gI a b else gI a b), b.fdiv (if b < 0 then -gI a b else gI a b))
noncomputable def P_frac : List PyData → PyData → Prop := fun ds r => ∃ a b : Int, ds = [.int a, .int b] ∧ Bd 7990 a ∧ Bd 7990 b ∧ r = fr (fracF a b)
theorem Sz.frac {n : Nat} {a b : Int} (ha : Bd n a) (hb : Bd n b) : Sz n (fracF a b) := ⟨ha.fdiv _, hb.fdiv _⟩
section
variable {K : Fg} {G G' G1 G2 : Gam} {s s1 s2 s3 s' : Bag} {ta tb tc te : TE} {t u : TT} {x y z : PyData} {E : XK}
theorem ev_gcd {a b : Int} (h1 : EvG K ta G s (.int a) s1) (h2 : EvG K tb G s1 (.int b) s2) : EvG K (tCall (spP K P_gcd) [] E (tCons ta (tCons tb tNil))) G s (.int (gI a b)) s2 :=
  ev_call (ea_cons h1 (ea_cons h2 ea_nil)) (fun _ => .nil) ⟨a, b, rfl, rfl⟩
theorem ev_frac {a b : Int} (h1 : EvG K ta G s (.int a) s1) (h2 : EvG K tb G s1 (.int b) s2) (ha : Bd 4000 a) (hb : Bd 4000 b) : EvG K (tCall (spP K P_frac) [] E (tCons ta (tCons tb tNil))) G s (fr (fracF a b)) s2 :=
  ev_call (ea_cons h1 (ea_cons h2 ea_nil)) (fun _ => .nil) ⟨a, b, rfl, ha.mono (by decide), hb.mono (by decide), rfl⟩
end
theorem less_none {K : Fg} {H : Hp} {a : Addr} {xs : List V} (h : SqL K H a xs) : SqL K (less H fun _ => False) a xs := ex_l (fun a o h => less_of (fun z => z) h) h
theorem ev_ixDisp {K : Fg} {G : Gam} {s s1 s2 : Bag} {ta : TA} {tb : TE} {xs : List PyData} {x : PyData} {i : Int} (h : EvA K ta G s xs s1) (hl : xs.length ≤ 16000000) (hb : EvG K tb G s1 (.int i) s2) (he : atI xs i = some x) : EvG K (tOp (rIx K) (tLst ta) tb) G s x s2 := ev_ixL (ev_lst h hl) hb he
/-! ### draws -/
noncomputable def cellOf (s : Bag) : Int := if s.cs.length = 0 then 0 else s.cs.getD (s.i.fmod s.cs.length).toNat 0
noncomputable def pull (s : Bag) (n : Int) : Int × Bag :=
  if 0 < s.cs.length ∧ 1000000000000000000 ≤ absI (cellOf s) then ((cellOf s).fmod n, ⟨s.cs.set (s.i.fmod s.cs.length).toNat ((cellOf s).fdiv n), s.i, s.j⟩)
  else
    let j := (s.j * 48271 + (cellOf s).fmod 1000003 + (s.i + 1)).fmod 2147483647
    ((((j * 69621 + j.fdiv 65536).fmod 2147483629).fdiv 32).fmod n, ⟨s.cs, s.i + 1, j⟩)
noncomputable def pullV (s : Bag) (n : Int) : Int := (pull s n).1
noncomputable def pullS (s : Bag) (n : Int) : Bag := (pull s n).2
theorem fmod_range (a : Int) {n : Int} (h : 0 < n) : 0 ≤ a.fmod n ∧ a.fmod n < n := by
  rw [Int.fmod_eq_emod_of_nonneg _ (Int.le_of_lt h)]
  exact ⟨Int.emod_nonneg _ (by omega), Int.emod_lt_of_pos _ h⟩
theorem pullV_range (s : Bag) {n : Int} (h : 0 < n) : 0 ≤ pullV s n ∧ pullV s n < n := by
  unfold pullV pull
  split
  · exact fmod_range _ h
  · exact fmod_range _ h
theorem pullS_ok {s : Bag} (n : Int) (h : s.ok) : (pullS s n).ok := qt_of (by simp (disch := with_unfolding_all
  obtain ⟨h1, h2, h3⟩ := h
  unfold pullS pull
  split
  · exact ⟨by show (List.set _ _ _).length ≤ 63; rw [List.length_set]; exact h1, h2, h3⟩
  · have := fmod_range (s.j * 48271 + (cellOf s).fmod 1000003 + (s.i + 1)) (n := 2147483647) (by decide)
    exact ⟨h1, this.1, this.2⟩
  ) only [↓qt_eq])
noncomputable def P_pull : Bag → List PyData → PyData → Bag → Prop := fun s ds r s' => ∃ n : Int, ds = [.int n] ∧ 0 < n ∧ n < 1000000000000 ∧ r = .int (pullV s n) ∧ s' = pullS s n
section
variable {K : Fg} {G G' G1 G2 : Gam} {s s1 s2 s3 s' : Bag} {ta tb tc te : TE} {t u : TT} {x y z : PyData} {E : XK}
theorem ev_pull {i : Nat} {n : Int} (hi : G[i]? = some .bag) (h : EvG K ta G s (.int n) s1) (h0 : 0 < n) (h1 : n < 1000000000000) : EvG K (tCall (spB K P_pull) [] E (tCons (tVar i) (tCons ta tNil))) G s (.int (pullV s1 n)) (pullS s1 n) :=
  ev_callB hi (ea_cons h ea_nil) ⟨n, rfl, h0, h1, rfl, rfl⟩
end
/-! ### drawn numbers -/
noncomputable def menu (l : List Int) (i : Int) : Int := l.getD i.toNat 0
theorem menu_at {l : List Int} {i : Int} (h0 : 0 ≤ i) (h1 : i < l.length) : atI (l.map PyData.int) i = some (.int (menu l i)) := qt_of (by simp (disch := with_unfolding_all
  obtain ⟨j, rfl⟩ : ∃ j : Nat, i = (j : Int) := ⟨i.toNat, by omega⟩
  have hj : j < l.length := by omega
  refine atI_nat ?_
  unfold menu
  rw [List.getElem?_map, List.getElem?_eq_getElem hj, Int.toNat_natCast, List.getD_eq_getElem?_getD, List.getElem?_eq_getElem hj]
  rfl
  ) only [↓qt_eq])
theorem menu_mem {l : List Int} {i : Int} (h0 : 0 ≤ i) (h1 : i < l.length) : menu l i ∈ l := qt_of (by simp (disch := with_unfolding_all
  obtain ⟨j, rfl⟩ : ∃ j : Nat, i = (j : Int) := ⟨i.toNat, by omega⟩
  have hj : j < l.length := by omega
  unfold menu
  rw [Int.toNat_natCast, List.getD_eq_getElem?_getD, List.getElem?_eq_getElem hj]
  exact List.getElem_mem hj
  ) only [↓qt_eq])
noncomputable def partOf (s : Bag) : Fr := fracF (pullV s 13 - 6) (menu [1, 1, 2, 3] (pullV (pullS s 13) 4))
noncomputable def partS (s : Bag) : Bag := pullS (pullS s 13) 4
noncomputable def P_part : Bag → List PyData → PyData → Bag → Prop := fun s ds r s' => ds = [] ∧ r = fr (partOf s) ∧ s' = partS s
theorem ev_b0 {K : Fg} {G : Gam} {s s' : Bag} {x : PyData} {E : XK} {i : Nat} {P : Bag → List PyData → PyData → Bag → Prop} (hi : G[i]? = some .bag) (hp : P s [] x s') : EvG K (tCall (spB K P) [] E (tCons (tVar i) tNil)) G s x s' := ev_callB hi ea_nil hp
theorem ev_part {K : Fg} {G : Gam} {s : Bag} {E : XK} {i : Nat} (hi : G[i]? = some .bag) : EvG K (tCall (spB K P_part) [] E (tCons (tVar i) tNil)) G s (fr (partOf s)) (partS s) := ev_b0 hi ⟨rfl, rfl, rfl⟩
theorem partOf_sz (s : Bag) : Sz 10 (partOf s) := qt_of (by simp (disch := with_unfolding_all
  obtain ⟨z1, z2⟩ := pullV_range s (n := 13) (by decide)
  obtain ⟨y1, y2⟩ := pullV_range (pullS s 13) (n := 4) (by decide)
  have hm := menu_mem (l := [1, 1, 2, 3]) y1 y2
  unfold partOf
  generalize menu _ _ = m at hm
  generalize pullV s 13 = y at *
  simp only [List.mem_cons, List.mem_singleton, List.not_mem_nil, or_false] at hm
  refine Sz.frac ?_ ?_
  · unfold Bd; omega
  · unfold Bd; omega
  ) only [↓qt_eq])
theorem partS_ok {s : Bag} (h : s.ok) : (partS s).ok := pullS_ok _ (pullS_ok _ h)
/-! ### alike: what is asked of a thing and itself -/
mutual
noncomputable def okD : Nat → PyData → Bool
  | _, .none => true
  | _, .bool _ => true
  | _, .int _ => true
  | _, .str _ => true
  | 0, .list _ => false
  | 0, .tuple _ => false
  | n + 1, .list xs => decide (xs.length ≤ 1000000) && okAll n xs
  | n + 1, .tuple xs => decide (xs.length ≤ 1000000) && okAll n xs
  | _, .dict _ => false
noncomputable def okAll : Nat → List PyData → Bool
  | _, [] => true
  | n, x :: xs => okD n x && okAll n xs
end
theorem okAll_get : ∀ {n : Nat} {xs : List PyData} {i : Nat} {x : PyData}, okAll n xs = true → xs[i]? = some x → okD n x = true
  | _, [], _, _, _, h => by simp at h
  | n, y :: xs, 0, x, h, e => by
    have e := Option.some.inj e
    subst e
    unfold okAll at h
    exact (Bool.and_eq_true_iff.mp h).1
  | n, y :: xs, i + 1, x, h, e => by
    unfold okAll at h
    exact okAll_get (i := i) (Bool.and_eq_true_iff.mp h).2 e
noncomputable def P_like : Nat → List PyData → PyData → Prop
  | 0 => fun _ _ => False
  | n + 1 => fun ds r => ∃ x : PyData, ds = [x, x] ∧ okD n x = true ∧ r = .bool true
section
variable {K : Fg} {G G' G1 G2 : Gam} {s s1 s2 s3 s' : Bag} {ta tb tc te : TE} {t u : TT} {x y z : PyData} {E : XK}
theorem ev_like {n : Nat} (h1 : EvG K ta G s x s1) (h2 : EvG K tb G s1 y s2) (e : x = y) (hx : okD n y = true) : EvG K (tCall (spP K (P_like (n + 1))) [] E (tCons ta (tCons tb tNil))) G s (.bool true) s2 := by
  subst e
  exact ev_call (ea_cons h1 (ea_cons h2 ea_nil)) (fun _ => .nil) ⟨x, rfl, hx, rfl⟩
end
end U

end
section
namespace U
open PySem PyProof.Rows L2 Evl
/-! what plain data are -/
theorem okD_sh (n : Nat) : ∀ x : PyData, okD n x = true → x.depth ≤ n ∧ PyData.eqv x x = true := qt_of (by simp (disch := with_unfolding_all
  induction n with
  | zero =>
    intro x h
    cases x with
    | none => exact ⟨Nat.le_refl _, rfl⟩
    | bool b => exact ⟨Nat.le_refl _, by show (b == b) = true; simp⟩
    | int i => exact ⟨Nat.le_refl _, by show (i == i) = true; simp⟩
    | str s => exact ⟨Nat.le_refl _, by show (s == s) = true; simp⟩
    | list xs => cases h
    | tuple xs => cases h
    | dict xs => cases h
  | succ n ih =>
    have all : ∀ xs : List PyData, okAll n xs = true → PyData.depthAll xs ≤ n ∧ PyData.eqvAll xs xs = true := fun xs => by
      induction xs with
      | nil => exact fun _ => ⟨Nat.zero_le _, rfl⟩
      | cons a l ih2 =>
        intro h
        unfold okAll at h
        obtain ⟨h1, h2⟩ := Bool.and_eq_true_iff.mp h
        obtain ⟨a2, a3⟩ := ih a h1
        obtain ⟨b2, b3⟩ := ih2 h2
        refine ⟨?_, ?_⟩
        · show max a.depth (PyData.depthAll l) ≤ n
          exact Nat.max_le.mpr ⟨a2, b2⟩
        · show (PyData.eqv a a && PyData.eqvAll l l) = true
          rw [a3, b3]; rfl
    intro x h
    cases x with
    | none => exact ⟨Nat.zero_le _, rfl⟩
    | bool b => exact ⟨Nat.zero_le _, by show (b == b) = true; simp⟩
    | int i => exact ⟨Nat.zero_le _, by show (i == i) = true; simp⟩
    | str s => exact ⟨Nat.zero_le _, by show (s == s) = true; simp⟩
    | list xs =>
      unfold okD at h
      obtain ⟨h1, h2⟩ := Bool.and_eq_true_iff.mp h
      obtain ⟨b2, b3⟩ := all xs h2
      exact ⟨Nat.succ_le_succ b2, b3⟩
    | tuple xs =>
      unfold okD at h
      obtain ⟨h1, h2⟩ := Bool.and_eq_true_iff.mp h
      obtain ⟨b2, b3⟩ := all xs h2
      exact ⟨Nat.succ_le_succ b2, b3⟩
    | dict xs => cases h
  ) only [↓qt_eq])
theorem canAll_of : ∀ {xs : List PyData}, (∀ x ∈ xs, x.canLay0 = true) → PyData.canLayAll0 xs = true
  | [], _ => rfl
  | x :: xs, h => by
    show (x.canLay0 && PyData.canLayAll0 xs) = true
    rw [h x (List.mem_cons_self ..), canAll_of fun y hy => h y (List.mem_cons_of_mem _ hy)]
    rfl
theorem can_list {xs : List PyData} (h : ∀ x ∈ xs, x.canLay0 = true) : (PyData.list xs).canLay0 = true := canAll_of h
theorem shaped_ok {n : Nat} {x : PyData} (h1 : x.canLay0 = true) (h : okD n x = true) (hn : n ≤ 60) : SeqAt.shaped x = true := by
  obtain ⟨h2, _⟩ := okD_sh n x h
  unfold SeqAt.shaped
  rw [h1, decide_eq_true (show x.depth ≤ 64 by omega)]
  rfl
theorem okAll_of {n : Nat} : ∀ {xs : List PyData}, (∀ x ∈ xs, okD n x = true) → okAll n xs = true
  | [], _ => rfl
  | x :: xs, h => by
    unfold okAll
    rw [h x (List.mem_cons_self ..), okAll_of fun y hy => h y (List.mem_cons_of_mem _ hy)]
    rfl
theorem okD_list {n : Nat} {xs : List PyData} (hl : xs.length ≤ 1000000) (h : ∀ x ∈ xs, okD n x = true) : okD (n + 1) (.list xs) = true := by
  unfold okD
  rw [decide_eq_true hl, okAll_of h]
  rfl
theorem okD_tup {n : Nat} {xs : List PyData} (hl : xs.length ≤ 1000000) (h : ∀ x ∈ xs, okD n x = true) : okD (n + 1) (.tuple xs) = true := by
  unfold okD
  rw [decide_eq_true hl, okAll_of h]
  rfl
theorem okD_fr (n : Nat) (p : Fr) : okD (n + 1) (fr p) = true := by cases n <;> rfl
theorem okD_frs {n : Nat} {ps : List Fr} (hl : ps.length ≤ 1000000) : okD (n + 2) (.tuple (ps.map fr)) = true := okD_tup (by rw [List.length_map]; exact hl) fun x hx => by
  obtain ⟨p, _, rfl⟩ := List.mem_map.mp hx
  exact okD_fr n p
end U

end
section
namespace U
open PySem PyProof.Rows L2 Evl
/-- list + list, both of them only read -/
noncomputable def rCatL (K : Fg) : R2 := fun x y H Q => ∃ a b xs ys, x = .ref a ∧ y = .ref b ∧ SqL K H a xs ∧ SqL K H b ys ∧ xs.length + ys.length ≤ sizeLine ∧ ∀ p, H p = none → Q (.ref p) (upd H p (.lst (xs ++ ys)))
section
variable {X : Cx}
theorem op_catL : OpR X (binaryOp .Add) (rCatL X.K) := by
  intro pins s σ H x y v u Q I rx ry h
  obtain ⟨l, b, xs, zs, rfl, rfl, hH, hB, hz, q⟩ := h
  cases rx
  cases ry
  obtain ⟨its, r, pl, hl⟩ := I.list hH
  obtain ⟨its2, r2, pl2, hl2⟩ := I.list hB
  have h1 := r.length
  have h2 := r2.length
  obtain ⟨⟨cls, dd, data, sl⟩, n, ho, hc, _, hd⟩ := pl
  obtain ⟨⟨cls2, dd2, data2, sl2⟩, n2, ho2, hc2, _, hd2⟩ := pl2
  simp only at hc hd hc2 hd2
  subst hc hd hc2 hd2
  refine concat_meets ⟨_, ho, rfl⟩ ⟨_, ho2, rfl⟩ noFill_list_add seq_list_add F.slot_list_add F.entry_list_add (F.args_list_add_2 _ _) (list_addW l b its.toArray its2.toArray n n2 dd dd2 sl sl2 (by rw [List.size_toArray, List.size_toArray]; omega)) ⟨ho, ho2, ?_⟩
  have ea : its.toArray ++ its2.toArray = (its ++ its2).toArray := by simp
  rw [ea]
  exact ⟨.ref _, _, I.lnew (t' := s.toks) (r.append r2) (by rw [List.length_append]; omega), rfl, q _ I.fresh⟩
end
section
variable {K : Fg} {G G1 G2 : Gam} {s s1 s2 s3 s' : Bag} {ta tb tc te : TE} {t u : TT} {x y z : PyData}
theorem cutD_whole {xs : List PyData} {lo hi : Option Int} (h : HT.sIx xs.length 0 lo = 0 ∧ HT.sIx xs.length xs.length hi = xs.length) : cutD xs lo hi = xs := by
  unfold cutD
  rw [h.1, h.2, List.drop_zero, Nat.sub_zero, List.take_length]
end
end U

end
section
namespace U
open PySem PyProof.Rows L2 Evl
section
variable {K : Fg} {G G1 G2 : Gam} {s s1 s2 s3 s' : Bag} {ta tb tc te : TE} {t u : TT} {x y z : PyData}
/-! ### in, not in: whole numbers -/
/-! ### zip -/
/-! ### a comprehension that draws -/
noncomputable def itB (N : Bag → Bag) : Nat → Bag → Bag
  | 0, s => s
  | n + 1, s => N (itB N n s)
noncomputable def drawn (F : Bag → PyData) (N : Bag → Bag) (n : Nat) (s : Bag) : List PyData := (List.range n).map fun i => F (itB N i s)
theorem ev_lcDraw {wi : TI} {g : TG} {vs : List Nat} {ds : List PyData} (h : Src K wi G s ds s1) (F : Bag → PyData) (N : Bag → Bag) (hu : ∀ i e, i ∈ vs → G[i]? = some e → e = .un) (hz : ds.length ≤ 16000000)
    (hs : ∀ x s, x ∈ ds → ∃ Gt, Tgt K g vs G x Gt ∧ EvG K te Gt s (F s) (N s)) : EvG K (tLc wi g tYes te vs) G s (.list (drawn F N ds.length s1)) (itB N ds.length s1) := qt_of (by simp (disch := with_unfolding_all
  have k := ev_lc (K := K) (te := te) (tt := tYes) h (fun i => some (F (itB N i s1))) (fun i => itB N i s1) rfl hu hz fun i x hx => by
    obtain ⟨Gt, a, b⟩ := hs x (itB N i s1) (List.mem_of_getElem? hx)
    exact ⟨Gt, _, a, et_yes, fun y hy => by cases hy; exact b, fun hn => by cases hn⟩
  have e : (List.range ds.length).filterMap (fun i => some (F (itB N i s1))) = drawn F N ds.length s1 := by
    unfold drawn
    exact congrFun List.filterMap_eq_map' _
  rw [e] at k
  exact k
  ) only [↓qt_eq])
end
end U

end
section
namespace U
open PySem PyProof.Rows L2 Evl
local macro_rules | `(tactic| walk_at "ev1") => `(tactic| first
  | exact ev_int | exact ev_bl | exact ev_str | exact ev_non | exact ev_var rfl | exact ea_nil | exact eo_none
  | with_reducible apply ev_ixDisp | with_reducible apply ev_fst | with_reducible apply ev_snd
  | with_reducible apply ev_add | with_reducible apply ev_sub | with_reducible apply ev_mul | with_reducible apply ev_fdiv | with_reducible apply ev_mod | with_reducible apply ev_pow
  | with_reducible apply ev_lt | with_reducible apply ev_le | with_reducible apply ev_gt | with_reducible apply ev_ge
  | with_reducible apply ev_eqI | with_reducible apply ev_neI
  | with_reducible apply ev_neg | with_reducible apply ev_subB | with_reducible apply ev_isNo | with_reducible apply ev_noNo
  | with_reducible apply ev_not | with_reducible apply et_test | with_reducible apply et_B | with_reducible apply et_not
  | with_reducible apply ev_abs | with_reducible apply ev_max | with_reducible apply ev_min | with_reducible apply ev_intB
  | with_reducible apply ev_gcd | with_reducible apply ev_frac | with_reducible apply ev_fadd | with_reducible apply ev_sign | with_reducible apply ev_cmpF
  | with_reducible apply ev_pull rfl
  | with_reducible apply ev_like
  | with_reducible apply ev_tup | with_reducible apply ev_lst | with_reducible apply ea_cons | with_reducible apply eo_some
  | with_reducible apply ev_order | exact ev_part rfl | exact ev_far rfl | exact ev_farPart rfl
  | (with_reducible show List.length _ ≤ 16000000; (simp; done)) | (with_reducible show (0 : Int) < _; decide) | (with_reducible show (_ : Int) < 1000000000000; decide) | (with_reducible show CPow _ _; (unfold CPow; decide)) | (with_reducible show CNz _ _; (unfold CNz; decide))
  | with_reducible apply sg_ret | with_reducible apply sg_asg | with_reducible apply sg_next)
local macro_rules | `(tactic| walk_at "ln") => `(tactic| first | walk_at "ev1" | with_reducible apply sg_seq)
section

section
variable {K : Fg}
-- slots of order: 0 one, 1 other, 2 gap
noncomputable def t__law_gcd (K : Fg) : TS := (tSeq (tAsg (tCB rAbs (tCons (tVar 0) tNil)) (gName 0))
  (tSeq (tAsg (tCB rAbs (tCons (tVar 1) tNil)) (gName 1))
  (tSeq (tWhile (tTest (tOp (rI0 fun i j => V.bl (decide (j < i))) (tVar 1) (tC (V.int 0)))) (tSeq (tAsg (tVar 1) (gName 2))
  (tSeq (tAsg (tOp (rI CNz fun i j => V.int (i.fmod j)) (tVar 0) (tVar 1)) (gName 1))
  (tAsg (tVar 2) (gName 0)))))
  (tRet (tCB rMx (tCons (tC (V.int 1)) (tCons (tVar 0) tNil)))))))
-- slots of _law_gcd: 0 _law_one, 1 _law_other, 2 _law_kept
theorem ln__law_gcd : ∀ ds r, P_gcd ds r → ds.length = 2 := fun ds r h => by obtain ⟨p, q, rfl, _⟩ := h; rfl
theorem rd__law_gcd {ds r} (h : P_gcd ds r) (b : Bag) : SG K (t__law_gcd K) (frame 3 ds) b (.rt r b) := qt_of (by simp (disch := with_unfolding_all
  obtain ⟨x, y, rfl, rfl⟩ := h
  unfold t__law_gcd
  obtain ⟨n, h1, h2⟩ := eu_end y.natAbs x.natAbs
  apply sg_is
  apply sg_seq
  (repeat' walk_at "ev1")
  apply sg_seq
  (repeat' walk_at "ev1")
  apply sg_seq
  · refine sg_while (s' := b) (fun i => [.d (.int (eu x.natAbs y.natAbs i).1), .d (.int (eu x.natAbs y.natAbs i).2), .un]) (fun _ => b) (fun _ => b) n ?_ rfl (fun i hi => ?_) (fun i hi => .inl ?_) ?_
    · show Wk [.d (.int (absI x)), .d (.int (absI y)), .un] _
      rw [absI_nat, absI_nat]
      exact .refl _
    · refine et_is (by (repeat' walk_at "ev1")) ?_
      have := h2 i hi
      simp; omega
    · have hy := h2 i hi
      refine sg_wk (G1 := [.d (.int (eu x.natAbs y.natAbs (i + 1)).1), .d (.int (eu x.natAbs y.natAbs (i + 1)).2), .d (.int (eu x.natAbs y.natAbs i).2)]) ?_ (.cons (.cons (.drop .nil)))
      apply sg_is
      (repeat' walk_at "ln")
      · show ((eu x.natAbs y.natAbs i).2 : Int) ≠ 0
        omega
      · rw [fmod_nat]
        rfl
    · refine et_is (by (repeat' walk_at "ev1")) ?_
      rw [h1]
      rfl
  · rw [h1]
    (repeat' walk_at "ev1")
  · show Out.rt (.int (maxI 1 _)) b = _
    rw [max_gN]
  ) only [↓qt_eq])
noncomputable def t__law_frac (K : Fg) : TS := (tSeq (tAsg (tCall (spP K P_gcd) [] E0 (tCons (tVar 0) (tCons (tVar 1) tNil))) (gName 2))
  (tSeq (tIfS (tTest (tOp (rI0 fun i j => V.bl (decide (i < j))) (tVar 1) (tC (V.int 0)))) (tAsg (tUn (rU fun i => V.int (-i)) (tVar 2)) (gName 2)) tNext)
  (tRet (tTup (tCons (tOp (rI CDvX fun i j => V.int (i.fdiv j)) (tVar 0) (tVar 2)) (tCons (tOp (rI CDvX fun i j => V.int (i.fdiv j)) (tVar 1) (tVar 2)) tNil))))))
-- slots of _law_frac: 0 _law_above, 1 _law_below, 2 _law_divisor
theorem ln__law_frac : ∀ ds r, P_frac ds r → ds.length = 2 := fun ds r h => by obtain ⟨p, q, rfl, _⟩ := h; rfl
theorem rd__law_frac {ds r} (h : P_frac ds r) (b : Bag) : SG K (t__law_frac K) (frame 3 ds) b (.rt r b) := qt_of (by simp (disch := with_unfolding_all
  obtain ⟨x, y, rfl, hx, hy, rfl⟩ := h
  unfold t__law_frac
  have hg := gI_pos x y
  have hb : Bd 7991 (gI x y) := Bd.g hx hy
  apply sg_seq
  (repeat' walk_at "ev1")
  apply sg_when
  (repeat' walk_at "ev1")
  · intro h
    have h := of_decide_eq_true h
    apply sg_is
    (repeat' walk_at "ln")
    · exact Bd.dv (by omega) hb.neg (by decide)
    · exact Bd.dv (by omega) hb.neg (by decide)
    · show Out.rt (fr (x.fdiv (-gI x y), y.fdiv (-gI x y))) b = Out.rt (fr (fracF x y)) b
      unfold fracF
      rw [if_pos h]
  · intro h
    have h := of_decide_eq_false h
    apply sg_is
    (repeat' walk_at "ln")
    · exact Bd.dv (by omega) hb (by decide)
    · exact Bd.dv (by omega) hb (by decide)
    · show Out.rt (fr (x.fdiv (gI x y), y.fdiv (gI x y))) b = Out.rt (fr (fracF x y)) b
      unfold fracF
      rw [if_neg h]
  ) only [↓qt_eq])
-- slots of _law_add: 0 _law_one, 1 _law_other
-- slots of _law_sign: 0 _law_number
-- slots of _law_cmp: 0 _law_one, 1 _law_other
noncomputable def t__law_part (K : Fg) : TS := (tRet (tCall (spP K P_frac) [] E0 (tCons (tOp (rI0 fun i j => V.int (i - j)) (tCall (spB K P_pull) [] E0 (tCons (tVar 0) (tCons (tC (V.int 13)) tNil))) (tC (V.int 6))) (tCons (tOp (rIx K) (tLst (tCons (tC (V.int 1)) (tCons (tC (V.int 1)) (tCons (tC (V.int 2)) (tCons (tC (V.int 3)) tNil))))) (tCall (spB K P_pull) [] E0 (tCons (tVar 0) (tCons (tC (V.int 4)) tNil)))) tNil))))
-- slots of _law_part: 0 _law_bag_here
theorem ln__law_part : ∀ s ds r s', P_part s ds r s' → ds.length + 1 = 1 := fun s ds r s' h => by obtain ⟨rfl, _⟩ := h; rfl
theorem rd__law_part {s ds r s'} (h : P_part s ds r s') (ok : s.ok) : SG K (t__law_part K) (.bag :: frame 0 ds) s (.rt r s') := qt_of (by simp (disch := with_unfolding_all
  obtain ⟨rfl, rfl, rfl⟩ := h
  unfold t__law_part
  obtain ⟨z1, z2⟩ := pullV_range s (n := 13) (by decide)
  obtain ⟨y1, y2⟩ := pullV_range (pullS s 13) (n := 4) (by decide)
  have hm := menu_mem (l := [1, 1, 2, 3]) y1 y2
  apply sg_is
  (repeat' walk_at "ln")
  all_goals first | exact menu_at (l := [1, 1, 2, 3]) y1 y2 | skip
  · unfold Bd; omega
  · refine Bd.mono (n := 10) ?_ (by decide)
    generalize menu _ _ = m at hm
    simp only [List.mem_cons, List.not_mem_nil, or_false] at hm
    unfold Bd; omega
  · rfl
  ) only [↓qt_eq])
-- slots of _law_far: 0 _law_bag_here
-- slots of _law_far_part: 0 _law_bag_here
noncomputable def t__law_pull (K : Fg) : TS := (tSeq (tAsg (tOp (rIx K) (tVar 0) (tC (V.int 0))) (gName 2))
  (tSeq (tAsg (tC (V.int 0)) (gName 3))
  (tSeq (tIfS (tTest (tOp (rI0 fun i j => V.bl (decide (j < i))) (tCB (rLenQ K) (tCons (tVar 2) tNil)) (tC (V.int 0)))) (tSeq (tAsg (tOp (rI CNz fun i j => V.int (i.fmod j)) (tOp (rIx K) (tVar 0) (tC (V.int 1))) (tCB (rLenQ K) (tCons (tVar 2) tNil))) (gName 4))
  (tSeq (tAsg (tOp (rIx K) (tVar 2) (tVar 4)) (gName 3))
  (tIfS (tTest (tOp (rI0 fun i j => V.bl (decide (j ≤ i))) (tCB rAbs (tCons (tVar 3) tNil)) (tOp (rI CPow fun i j => V.int (i ^ j.toNat)) (tC (V.int 10)) (tC (V.int 18))))) (tSeq (tAsg (tOp (rI CDvX fun i j => V.int (i.fdiv j)) (tVar 3) (tVar 1)) (gSub (tVar 2) (tVar 4) rSetL))
  (tRet (tOp (rI CNz fun i j => V.int (i.fmod j)) (tVar 3) (tVar 1)))) tNext))) tNext)
  (tSeq (tAsg (tOp (rI0 fun i j => V.int (i + j)) (tOp (rIx K) (tVar 0) (tC (V.int 1))) (tC (V.int 1))) (gSub (tVar 0) (tC (V.int 1)) rSetL))
  (tSeq (tAsg (tOp (rI CNz fun i j => V.int (i.fmod j)) (tOp (rI0 fun i j => V.int (i + j)) (tOp (rI0 fun i j => V.int (i + j)) (tOp (rI CMulW fun i j => V.int (i * j)) (tOp (rIx K) (tVar 0) (tC (V.int 2))) (tC (V.int 48271))) (tOp (rI CNz fun i j => V.int (i.fmod j)) (tVar 3) (tC (V.int 1000003)))) (tOp (rIx K) (tVar 0) (tC (V.int 1)))) (tC (V.int 2147483647))) (gSub (tVar 0) (tC (V.int 2)) rSetL))
  (tRet (tOp (rI CNz fun i j => V.int (i.fmod j)) (tOp (rI CDvX fun i j => V.int (i.fdiv j)) (tOp (rI CNz fun i j => V.int (i.fmod j)) (tOp (rI0 fun i j => V.int (i + j)) (tOp (rI CMulW fun i j => V.int (i * j)) (tOp (rIx K) (tVar 0) (tC (V.int 2))) (tC (V.int 69621))) (tOp (rI CDvX fun i j => V.int (i.fdiv j)) (tOp (rIx K) (tVar 0) (tC (V.int 2))) (tC (V.int 65536)))) (tC (V.int 2147483629))) (tC (V.int 32))) (tVar 1))))))))
-- slots of _law_pull: 0 _law_bag_here, 1 _law_size, 2 _law_cells, 3 _law_cell, 4 _law_spot
theorem ln__law_pull : ∀ s ds r s', P_pull s ds r s' → ds.length + 1 = 2 := fun s ds r s' h => by obtain ⟨n, rfl, _⟩ := h; rfl
theorem bag_ne {H : Hp} {b c : Addr} {s : Bag} (h : BagAt H (some (b, c)) s) : b ≠ c := fun e => by
  have h1 := h.1
  have h2 := h.2.1
  rw [e, h2] at h1
  have h3 := HO.lst.inj (Option.some.inj h1)
  cases hc : s.cs with
  | nil => rw [hc] at h3; cases h3
  | cons x r => rw [hc] at h3; cases h3
theorem rd_pullTail {D : Ends} {H : Hp} {b c : Addr} {s : Bag} {cell n : Int} {x4 : Option V} (hB : BagAt H (some (b, c)) s) (h0 : 0 < n)
    (q : ∀ H', (∀ a o, H a = some o → ¬ InB (some (b, c)) a → H' a = some o) → BagAt H' (some (b, c)) ⟨s.cs, s.i + 1, (s.j * 48271 + cell.fmod 1000003 + (s.i + 1)).fmod 2147483647⟩ →
      D.rt (.int (((((s.j * 48271 + cell.fmod 1000003 + (s.i + 1)).fmod 2147483647) * 69621 + ((s.j * 48271 + cell.fmod 1000003 + (s.i + 1)).fmod 2147483647).fdiv 65536).fmod 2147483629).fdiv 32 |>.fmod n)) H') :
    (tSeq (tAsg (tOp (rI0 fun i j => V.int (i + j)) (tOp (rIx K) (tVar 0) (tC (V.int 1))) (tC (V.int 1))) (gSub (tVar 0) (tC (V.int 1)) rSetL))
  (tSeq (tAsg (tOp (rI CNz fun i j => V.int (i.fmod j)) (tOp (rI0 fun i j => V.int (i + j)) (tOp (rI0 fun i j => V.int (i + j)) (tOp (rI CMulW fun i j => V.int (i * j)) (tOp (rIx K) (tVar 0) (tC (V.int 2))) (tC (V.int 48271))) (tOp (rI CNz fun i j => V.int (i.fmod j)) (tVar 3) (tC (V.int 1000003)))) (tOp (rIx K) (tVar 0) (tC (V.int 1)))) (tC (V.int 2147483647))) (gSub (tVar 0) (tC (V.int 2)) rSetL))
  (tRet (tOp (rI CNz fun i j => V.int (i.fmod j)) (tOp (rI CDvX fun i j => V.int (i.fdiv j)) (tOp (rI CNz fun i j => V.int (i.fmod j)) (tOp (rI0 fun i j => V.int (i + j)) (tOp (rI CMulW fun i j => V.int (i * j)) (tOp (rIx K) (tVar 0) (tC (V.int 2))) (tC (V.int 69621))) (tOp (rI CDvX fun i j => V.int (i.fdiv j)) (tOp (rIx K) (tVar 0) (tC (V.int 2))) (tC (V.int 65536)))) (tC (V.int 2147483629))) (tC (V.int 32))) (tVar 1))))) D
    [some (.ref b), some (.int n), some (.ref c), some (.int cell), x4] H := qt_of (by simp (disch := with_unfolding_all
  obtain ⟨hb, hc, h1, h2, h3⟩ := id hB
  have nbc : b ≠ c := bag_ne hB
  have mulj : ∀ {x y : Int}, 0 ≤ x → x < 2147483647 → Bd 40 y → CMulW x y := fun {x y} a b c => Bd.cm (n := 31) (m := 40) (by unfold Bd; omega) c (by decide)
  generalize hj : (s.j * 48271 + cell.fmod 1000003 + (s.i + 1)).fmod 2147483647 = j at q
  have hjr : 0 ≤ j ∧ j < 2147483647 := by rw [← hj]; exact fmod_range _ (by decide)
  -- bag[1] = bag[1] + 1
  refine ⟨_, rfl, .inl ⟨b, _, 1, .int s.i, rfl, rfl, sq_of hb, rfl, _, _, rfl, rfl, _, rfl, b, _, 1, 1, rfl, rfl, hb, rfl, ?_⟩⟩
  -- bag[2] = ..
  refine ⟨_, rfl, .inl ⟨b, _, 2, .int s.j, rfl, rfl, sq_of upd_same, rfl, _, _, rfl, rfl, mulj h2 h3 (by unfold Bd; decide), _, rfl, _, _, rfl, rfl, (by show (1000003 : Int) ≠ 0; decide), _, _, rfl, rfl, _, rfl, .inl ⟨b, _, 1, .int (s.i + 1), rfl, rfl, sq_of upd_same, rfl, _, _, rfl, rfl, _, _, rfl, rfl, (by show (2147483647 : Int) ≠ 0; decide), _, rfl, b, _, 2, 2, rfl, rfl, upd_same, rfl, ?_⟩⟩⟩
  dsimp only
  rw [hj]
  -- return
  refine ⟨_, rfl, .inl ⟨b, _, 2, .int j, rfl, rfl, sq_of upd_same, rfl, _, _, rfl, rfl, mulj hjr.1 hjr.2 (by unfold Bd; decide), _, rfl, .inl ⟨b, _, 2, .int j, rfl, rfl, sq_of upd_same, rfl, _, _, rfl, rfl, ⟨by decide, by decide⟩, _, _, rfl, rfl, _, _, rfl, rfl, (by show (2147483629 : Int) ≠ 0; decide), _, _, rfl, rfl, ⟨by decide, by decide⟩, _, rfl, _, _, rfl, rfl, ?_, ?_⟩⟩⟩
  · show n ≠ 0
    omega
  · refine q _ (fun a o h z => ?_) ⟨upd_same, ?_, h1, hjr.1, hjr.2⟩
    · have na : a ≠ b := fun e => z ⟨b, c, rfl, .inl e⟩
      rw [upd_ne na, upd_ne na]; exact h
    · rw [upd_ne nbc.symm, upd_ne nbc.symm]; exact hc
  ) only [↓qt_eq])
theorem rd__law_pull {D : Ends} {W : Addr → Prop} {H : Hp} {b c : Addr} {s : Bag} {n : Int} (hB : BagAt H (some (b, c)) s) (h0 : 0 < n) (h1 : n < 1000000000000)
    (q : ∀ (v : V) (H' : Hp), (∀ (a : Addr) (o : HO), H a = some o → ¬InB (some (b, c)) a → H' a = some o) → BagAt H' (some (b, c)) (pullS s n) → Dp K (less H' fun a => W a ∨ InB (some (b, c)) a) v (PyData.int (pullV s n)) → D.rt v H') :
    t__law_pull K D [some (.ref b), some (.int n), none, none, none] H := qt_of (by simp (disch := with_unfolding_all
  obtain ⟨hb, hc, k1, k2, k3⟩ := id hB
  have nbc : b ≠ c := bag_ne hB
  unfold t__law_pull
  refine ⟨_, rfl, .inl ⟨b, _, 0, .ref c, rfl, rfl, sq_of hb, rfl, ?_⟩⟩
  have lc : SqL K H c (s.cs.map V.int) := sq_of hc
  refine ⟨_, rfl, c, _, rfl, .inl lc, _, _, rfl, rfl, _, rfl, ?_⟩
  rw [List.length_map]
  refine ite2 (fun h => ?_) (fun h => ?_)
  · have hl : 0 < s.cs.length := by have := of_decide_eq_true h; omega
    have hsp := fmod_range s.i (n := (s.cs.length : Int)) (by omega)
    obtain ⟨k, hk⟩ : ∃ k : Nat, s.i.fmod s.cs.length = (k : Int) := ⟨(s.i.fmod s.cs.length).toNat, by omega⟩
    have kl : k < s.cs.length := by omega
    have gk : (s.cs.map V.int)[k]? = some (.int s.cs[k]) := by rw [List.getElem?_map, List.getElem?_eq_getElem kl]; rfl
    have ec : cellOf s = s.cs[k] := by
      unfold cellOf
      rw [if_neg (by omega), hk, Int.toNat_natCast, List.getD_eq_getElem?_getD, List.getElem?_eq_getElem kl]
      rfl
    refine ⟨_, rfl, .inl ⟨b, _, 1, .int s.i, rfl, rfl, sq_of hb, rfl, _, rfl, c, _, rfl, .inl lc, _, _, rfl, rfl, ?_, ?_⟩⟩
    · show ((s.cs.map V.int).length : Int) ≠ 0
      rw [List.length_map]; omega
    rw [List.length_map]
    dsimp only
    rw [hk]
    refine ⟨_, rfl, _, rfl, .inl ⟨c, _, (k : Int), _, rfl, rfl, lc, atI_nat gk, ?_⟩⟩
    refine ⟨_, rfl, _, rfl, _, _, rfl, rfl, (by unfold CPow; decide), _, _, rfl, rfl, _, rfl, ?_⟩
    have e18 : (10 : Int) ^ (18 : Int).toNat = 1000000000000000000 := by decide
    rw [e18]
    refine ite2 (fun h2 => ?_) (fun h2 => ?_)
    · have hbig : 1000000000000000000 ≤ absI (cellOf s) := by
        rw [ec]; exact of_decide_eq_true h2
      have ep : pull s n = ((cellOf s).fmod n, ⟨s.cs.set k ((cellOf s).fdiv n), s.i, s.j⟩) := by
        unfold pull
        rw [if_pos ⟨hl, hbig⟩, hk, Int.toNat_natCast]
      refine ⟨_, rfl, _, rfl, _, _, rfl, rfl, ⟨by omega, ?_⟩, _, rfl, _, rfl, c, _, (k : Int), k, rfl, rfl, hc, ?_, ?_⟩
      · have : n.natAbs < 2 ^ 40 := by omega
        have := PySem.Flt.log2_lt_of (by decide) this
        omega
      · exact ixN_nat (by rw [List.length_map]; exact kl)
      · refine ⟨_, rfl, _, rfl, _, _, rfl, rfl, (by show n ≠ 0; omega), ?_⟩
        refine q _ _ (fun a o h z => ?_) ?_ ?_
        · rw [upd_ne (fun e => z ⟨b, c, rfl, .inr e⟩)]; exact h
        · unfold pullS
          rw [ep]
          refine ⟨by rw [upd_ne nbc]; exact hb, ?_, by rw [List.length_set]; exact k1, k2, k3⟩
          rw [upd_same, List.map_set, ec]
        · unfold pullV
          rw [ep, ec]
          exact .int _
    · have hbig : ¬ 1000000000000000000 ≤ absI (cellOf s) := fun z => h2 (decide_eq_true (by rw [ec] at z; exact z))
      refine rd_pullTail hB h0 fun H' e hB' => ?_
      have ep : pull s n = (((((s.j * 48271 + (cellOf s).fmod 1000003 + (s.i + 1)).fmod 2147483647) * 69621 + ((s.j * 48271 + (cellOf s).fmod 1000003 + (s.i + 1)).fmod 2147483647).fdiv 65536).fmod 2147483629).fdiv 32 |>.fmod n, ⟨s.cs, s.i + 1, (s.j * 48271 + (cellOf s).fmod 1000003 + (s.i + 1)).fmod 2147483647⟩) := by
        unfold pull
        rw [if_neg (fun z => hbig z.2)]
      refine q _ _ e ?_ ?_
      · unfold pullS
        rw [ep, ec]; exact hB'
      · unfold pullV
        rw [ep, ec]; exact .int _
  · have hl : s.cs.length = 0 := by
      have := of_decide_eq_false (eq_false_of_ne_true h)
      omega
    have ec : cellOf s = 0 := by unfold cellOf; rw [if_pos hl]
    refine rd_pullTail hB h0 fun H' e hB' => ?_
    have ep : pull s n = (((((s.j * 48271 + (cellOf s).fmod 1000003 + (s.i + 1)).fmod 2147483647) * 69621 + ((s.j * 48271 + (cellOf s).fmod 1000003 + (s.i + 1)).fmod 2147483647).fdiv 65536).fmod 2147483629).fdiv 32 |>.fmod n, ⟨s.cs, s.i + 1, (s.j * 48271 + (cellOf s).fmod 1000003 + (s.i + 1)).fmod 2147483647⟩) := by
      unfold pull
      rw [if_neg (fun z => by omega)]
    refine q _ _ e ?_ ?_
    · unfold pullS
      rw [ep, ec]; exact hB'
    · unfold pullV
      rw [ep, ec]; exact .int _
  ) only [↓qt_eq])
end

end
end U
end
section
namespace U
open PySem PyProof.Rows L2 Evl
theorem kit_NoneType_bool : kitB "NoneType" "bool" = some false := by decide +kernel
theorem kit_NoneType_int : kitB "NoneType" "int" = some false := by decide +kernel
theorem kit_NoneType_str : kitB "NoneType" "str" = some false := by decide +kernel
theorem kit_NoneType_list : kitB "NoneType" "list" = some false := by decide +kernel
theorem kit_NoneType_tuple : kitB "NoneType" "tuple" = some false := by decide +kernel
theorem kit_bool_bool : kitB "bool" "bool" = some true := by decide +kernel
theorem kit_bool_list : kitB "bool" "list" = some false := by decide +kernel
theorem kit_bool_tuple : kitB "bool" "tuple" = some false := by decide +kernel
theorem kit_int_bool : kitB "int" "bool" = some false := by decide +kernel
theorem kit_int_int : kitB "int" "int" = some true := by decide +kernel
theorem kit_int_list : kitB "int" "list" = some false := by decide +kernel
theorem kit_int_tuple : kitB "int" "tuple" = some false := by decide +kernel
theorem kit_str_bool : kitB "str" "bool" = some false := by decide +kernel
theorem kit_str_int : kitB "str" "int" = some false := by decide +kernel
theorem kit_str_str : kitB "str" "str" = some true := by decide +kernel
theorem kit_str_list : kitB "str" "list" = some false := by decide +kernel
theorem kit_str_tuple : kitB "str" "tuple" = some false := by decide +kernel
theorem kit_list_list : kitB "list" "list" = some true := by decide +kernel
theorem kit_list_tuple : kitB "list" "tuple" = some false := by decide +kernel
theorem kit_tuple_list : kitB "tuple" "list" = some false := by decide +kernel
theorem kit_tuple_tuple : kitB "tuple" "tuple" = some true := by decide +kernel
local macro_rules | `(tactic| walk_at "ev1") => `(tactic| first
  | exact ev_int | exact ev_bl | exact ev_str | exact ev_non | exact ev_var rfl | exact ea_nil | exact eo_none
  | with_reducible apply ev_ixDisp | with_reducible apply ev_fst | with_reducible apply ev_snd
  | with_reducible apply ev_add | with_reducible apply ev_sub | with_reducible apply ev_mul | with_reducible apply ev_fdiv | with_reducible apply ev_mod | with_reducible apply ev_pow
  | with_reducible apply ev_lt | with_reducible apply ev_le | with_reducible apply ev_gt | with_reducible apply ev_ge
  | with_reducible apply ev_eqI | with_reducible apply ev_neI
  | with_reducible apply ev_neg | with_reducible apply ev_subB | with_reducible apply ev_isNo | with_reducible apply ev_noNo
  | with_reducible apply ev_not | with_reducible apply et_test | with_reducible apply et_B | with_reducible apply et_not
  | with_reducible apply ev_abs | with_reducible apply ev_max | with_reducible apply ev_min | with_reducible apply ev_intB
  | with_reducible apply ev_gcd | with_reducible apply ev_frac | with_reducible apply ev_fadd | with_reducible apply ev_sign | with_reducible apply ev_cmpF
  | with_reducible apply ev_pull rfl
  | with_reducible apply ev_like
  | with_reducible apply ev_tup | with_reducible apply ev_lst | with_reducible apply ea_cons | with_reducible apply eo_some
  | with_reducible apply ev_order | exact ev_part rfl | exact ev_far rfl | exact ev_farPart rfl
  | (with_reducible show List.length _ ≤ 16000000; (simp; done)) | (with_reducible show (0 : Int) < _; decide) | (with_reducible show (_ : Int) < 1000000000000; decide) | (with_reducible show CPow _ _; (unfold CPow; decide)) | (with_reducible show CNz _ _; (unfold CNz; decide))
  | with_reducible apply sg_ret | with_reducible apply sg_asg | with_reducible apply sg_next)
local macro_rules | `(tactic| walk_at "ln") => `(tactic| first | walk_at "ev1" | with_reducible apply sg_seq)

section
variable {K : Fg}
theorem fnok_false {Pg : Program} {w : World} {mg : Str → Option Value} {base : Heap} {CX : CXT} {k : Nat} {f : Addr} {fd : FuncData} {ps : List Str} : FnOk Pg w K mg base CX k f fd ps (spP K fun _ _ => False) :=
  ⟨fun vs H Q E h => by obtain ⟨_, _, _, _, _, h, _⟩ := h; exact h.elim, fun A outer s H args us vs Q E _ _ _ _ h => by obtain ⟨_, _, _, _, _, h, _⟩ := h; exact h.elim⟩
/-! _law_bag -/
noncomputable def t__law_bag (K : Fg) : TS := (tRet (tLst (tCons (tCB (rListQ K) (tCons (tSl (rSlL K) (tVar 0) tNoPart (tPart (tC (V.int 63)))) tNil)) (tCons (tC (V.int 0)) (tCons (tC (V.int 20011)) tNil)))))
-- slots of _law_bag: 0 _law_script
theorem cut63 {xs : List V} (h : xs.length ≤ 63) : cutV xs none (some 63) = xs := qt_of (by simp (disch := with_unfolding_all
  unfold cutV
  rw [HT.sIx_none, show HT.sIx xs.length xs.length (some 63) = min 63 xs.length from HT.sIx_nat xs.length xs.length 63, Nat.min_eq_right h, List.drop_zero, Nat.sub_zero, List.take_length]
  ) only [↓qt_eq])
theorem rd__law_bag {D : Ends} {W : Addr → Prop} {H : Hp} {v : V} {ns : List Int} (hd : Dp K (less H W) v (.list (ns.map PyData.int))) (hl : ns.length ≤ 63)
    (q : ∀ b c H', Ex H H' → H b = none → H c = none → BagAt H' (some (b, c)) (bag0 ns) → D.rt (.ref b) H') : t__law_bag K D [some v] H := qt_of (by simp (disch := with_unfolding_all
  cases hd with
  | @lst a vs _ g t =>
    have e := dpa_ints t
    subst e
    have g' : SqL K H a (ns.map V.int) := ex_l less_ex g
    have ll : (ns.map V.int).length ≤ 63 := by rw [List.length_map]; exact hl
    unfold t__law_bag
    refine ⟨.ref a, rfl, 63, rfl, a, _, rfl, g', fun p hp => ?_⟩
    rw [cut63 ll]
    refine ⟨p, _, rfl, .inl (sq_of upd_same), fun c hc => ?_⟩
    refine ⟨by show 3 ≤ sizeLine; decide, fun b hb => ?_⟩
    have e1 : Ex H (upd H p (.lst (ns.map V.int))) := Ex.new hp
    have e2 := e1.trans (Ex.new (o := .lst (ns.map V.int)) hc)
    have nbc : c ≠ b := fun z => by
      rw [← z, upd_same] at hb; cases hb
    refine q b c _ (e2.trans (Ex.new hb)) (fresh_back e2 hb) (fresh_back e1 hc) ⟨upd_same, ?_, hl, by show (0 : Int) ≤ 20011; decide, by show (20011 : Int) < 2147483647; decide⟩
    rw [upd_ne nbc, upd_same]
    rfl
  ) only [↓qt_eq])
/-! _law_like -/
noncomputable def t__law_like (K : Fg) (n : Nat) : TS := (tSeq (tIfS (tB (tCB (rIsiT K) (tCons (tVar 1) (tCons (tTup (tCons (tC (V.ty "tuple")) (tCons (tC (V.ty "list")) tNil))) tNil)))) (tSeq (tIfS (tTest (tOp rNe (tCB (rIsi K) (tCons (tVar 0) (tCons (tC (V.ty "tuple")) tNil))) (tCB (rIsi K) (tCons (tVar 1) (tCons (tC (V.ty "tuple")) tNil))))) (tRet (tC (V.bl false))) tNext)
  (tSeq (tIfS (tOr (tNot (tB (tCB (rIsiT K) (tCons (tVar 0) (tCons (tTup (tCons (tC (V.ty "tuple")) (tCons (tC (V.ty "list")) tNil))) tNil))))) (tTest (tOp rNe (tCB (rLenQ K) (tCons (tVar 0) tNil)) (tCB (rLenQ K) (tCons (tVar 1) tNil))))) (tRet (tC (V.bl false))) tNext)
  (tRet (tCB (rAll K) (tCons (tLc (iRng1 (tCons (tCB (rLenQ K) (tCons (tVar 1) tNil)) tNil)) (gName 2) tYes (tCall (spP K (P_like n)) [] E0 (tCons (tOp (rIx K) (tVar 0) (tVar 2)) (tCons (tOp (rIx K) (tVar 1) (tVar 2)) tNil))) [2]) tNil))))) tNext)
  (tSeq (tIfS (tB (tCB (rIsi K) (tCons (tVar 1) (tCons (tC (V.ty "bool")) tNil)))) (tRet (tAndV (tCB (rIsi K) (tCons (tVar 0) (tCons (tC (V.ty "bool")) tNil))) (tOp rEq (tVar 0) (tVar 1)))) tNext)
  (tSeq (tIfS (tB (tCB (rIsi K) (tCons (tVar 1) (tCons (tC (V.ty "int")) tNil)))) (tRet (tAndV (tCB (rIsi K) (tCons (tVar 0) (tCons (tC (V.ty "int")) tNil))) (tAndV (tNotV (tCB (rIsi K) (tCons (tVar 0) (tCons (tC (V.ty "bool")) tNil)))) (tOp rEq (tVar 0) (tVar 1))))) tNext)
  (tSeq (tIfS (tB (tCB (rIsi K) (tCons (tVar 1) (tCons (tC (V.ty "str")) tNil)))) (tRet (tAndV (tCB (rIsi K) (tCons (tVar 0) (tCons (tC (V.ty "str")) tNil))) (tOp rEq (tVar 0) (tVar 1)))) tNext)
  (tRet (tAndV (tOp rIsNo (tVar 1) (tC V.non)) (tOp rIsNo (tVar 0) (tC V.non))))))))
-- slots of _law_like: 0 _law_found, 1 _law_due, 2 _law_at
theorem ln__law_like {n : Nat} : ∀ ds r, P_like (n + 1) ds r → ds.length = 2 := fun ds r h => by obtain ⟨p, rfl, _⟩ := h; rfl
theorem atI_rng {xs : List PyData} {i : Nat} (h : i < xs.length) : ∃ x, xs[i]? = some x ∧ atI xs ((0 : Int) + (i : Int)) = some x := by
  refine ⟨xs[i], List.getElem?_eq_getElem h, ?_⟩
  rw [Int.zero_add]
  exact atI_nat (List.getElem?_eq_getElem h)
theorem mem_rng {lo : Int} {n : Nat} {x : PyData} (h : x ∈ rngD lo n) : ∃ i, i < n ∧ x = .int (lo + (i : Int)) := by
  unfold rngD at h
  obtain ⟨i, hi, rfl⟩ := List.mem_map.mp h
  exact ⟨i, List.mem_range.mp hi, rfl⟩
theorem un_at {G : Gam} {j : Nat} (h : G[j]? = some .un) : ∀ i e, i ∈ [j] → G[i]? = some e → e = .un := fun i e hi g => by
  rw [List.mem_singleton.mp hi, h] at g
  exact (Option.some.inj g).symm
theorem all_true (n : Nat) (l : List PyData) : l.map (fun _ => PyData.bool true) = (l.map fun _ => true).map PyData.bool := by
  rw [List.map_map]; rfl
theorem all_true2 (l : List PyData) : (l.map fun _ => true).all id = true := by
  rw [List.all_map]; simp
theorem rd__law_like {n : Nat} {ds r} (h : P_like (n + 1) ds r) (b : Bag) : SG K (t__law_like K n) (frame 3 ds) b (.rt r b) := qt_of (by simp (disch := with_unfolding_all
  obtain ⟨x, rfl, hx, rfl⟩ := h
  unfold t__law_like
  have v0 : EvG K (tVar 0) (frame 3 [x, x]) b x b := ev_var rfl
  have v1 : EvG K (tVar 1) (frame 3 [x, x]) b x b := ev_var rfl
  cases x with
  | none =>
    refine sg_when (et_B (ev_isi2 v1 kit_NoneType_tuple kit_NoneType_list)) (fun h => by cases h) fun _ => ?_
    refine sg_when (et_B (ev_isi v1 kit_NoneType_bool)) (fun h => by cases h) fun _ => ?_
    refine sg_when (et_B (ev_isi v1 kit_NoneType_int)) (fun h => by cases h) fun _ => ?_
    refine sg_when (et_B (ev_isi v1 kit_NoneType_str)) (fun h => by cases h) fun _ => ?_
    exact sg_ret (ev_andT (ev_isNo v1) (ev_isNo v0))
  | bool i =>
    refine sg_when (et_B (ev_isi2 v1 kit_bool_tuple kit_bool_list)) (fun h => by cases h) fun _ => ?_
    refine sg_when (et_B (ev_isi v1 kit_bool_bool)) (fun _ => ?_) (fun h => by cases h)
    refine sg_seqR (sg_ret (ev_andT (ev_isi v0 kit_bool_bool) (ev_is (ev_eqB v0 v1) ?_)))
    simp
  | int i =>
    refine sg_when (et_B (ev_isi2 v1 kit_int_tuple kit_int_list)) (fun h => by cases h) fun _ => ?_
    refine sg_when (et_B (ev_isi v1 kit_int_bool)) (fun h => by cases h) fun _ => ?_
    refine sg_when (et_B (ev_isi v1 kit_int_int)) (fun _ => ?_) (fun h => by cases h)
    refine sg_seqR (sg_ret (ev_andT (ev_isi v0 kit_int_int) (ev_andT (ev_not (ev_isi v0 kit_int_bool)) (ev_is (ev_eqI v0 v1) ?_))))
    simp
  | str i =>
    refine sg_when (et_B (ev_isi2 v1 kit_str_tuple kit_str_list)) (fun h => by cases h) fun _ => ?_
    refine sg_when (et_B (ev_isi v1 kit_str_bool)) (fun h => by cases h) fun _ => ?_
    refine sg_when (et_B (ev_isi v1 kit_str_int)) (fun h => by cases h) fun _ => ?_
    refine sg_when (et_B (ev_isi v1 kit_str_str)) (fun _ => ?_) (fun h => by cases h)
    refine sg_seqR (sg_ret (ev_andT (ev_isi v0 kit_str_str) (ev_is (ev_eqS v0 v1) ?_)))
    simp
  | dict i => cases n <;> cases hx
  | tuple xs =>
    cases n with
    | zero => cases hx
    | succ n =>
      unfold okD at hx
      obtain ⟨hl, ha⟩ := Bool.and_eq_true_iff.mp hx
      have hl := of_decide_eq_true hl
      refine sg_when (et_B (ev_isi2 v1 kit_tuple_tuple kit_tuple_list)) (fun _ => ?_) (fun h => by cases h)
      refine sg_seqR ?_
      refine sg_when (et_test (ev_neB (ev_isi v0 kit_tuple_tuple) (ev_isi v1 kit_tuple_tuple))) (fun h => by cases h) fun _ => ?_
      refine sg_when (et_orF (et_not (et_B (ev_isi2 v0 kit_tuple_tuple kit_tuple_list))) (et_is (et_test (ev_neI (ev_lenT v0) (ev_lenT v1))) (b' := false) (by simp))) (fun h => by cases h) fun _ => ?_
      refine sg_ret (ev_is (ev_all (bs := (rngD 0 ((xs.length : Int).toNat)).map fun _ => true) (ev_is (ev_lcM (src_rng1 (ea_cons (ev_lenT v1) ea_nil) ⟨by omega, by omega⟩) (fun _ => .bool true) (un_at rfl) (by rw [rngD_len]; omega) fun y hy => ?_) (congrArg PyData.list (all_true 0 _)))) (by rw [all_true2]))
      obtain ⟨i, hi, rfl⟩ := mem_rng hy
      rw [Int.toNat_natCast] at hi
      obtain ⟨z, hz, hz2⟩ := atI_rng hi
      refine ⟨_, tgt_name, ev_like (ev_ixT (ev_var rfl) (ev_var rfl) hz2) (ev_ixT (ev_var rfl) (ev_var rfl) hz2) rfl (okAll_get ha hz)⟩
  | list xs =>
    cases n with
    | zero => cases hx
    | succ n =>
      unfold okD at hx
      obtain ⟨hl, ha⟩ := Bool.and_eq_true_iff.mp hx
      have hl := of_decide_eq_true hl
      refine sg_when (et_B (ev_isi2 v1 kit_list_tuple kit_list_list)) (fun _ => ?_) (fun h => by cases h)
      refine sg_seqR ?_
      refine sg_when (et_test (ev_neB (ev_isi v0 kit_list_tuple) (ev_isi v1 kit_list_tuple))) (fun h => by cases h) fun _ => ?_
      refine sg_when (et_orF (et_not (et_B (ev_isi2 v0 kit_list_tuple kit_list_list))) (et_is (et_test (ev_neI (ev_lenL v0) (ev_lenL v1))) (b' := false) (by simp))) (fun h => by cases h) fun _ => ?_
      refine sg_ret (ev_is (ev_all (bs := (rngD 0 ((xs.length : Int).toNat)).map fun _ => true) (ev_is (ev_lcM (src_rng1 (ea_cons (ev_lenL v1) ea_nil) ⟨by omega, by omega⟩) (fun _ => .bool true) (un_at rfl) (by rw [rngD_len]; omega) fun y hy => ?_) (congrArg PyData.list (all_true 0 _)))) (by rw [all_true2]))
      obtain ⟨i, hi, rfl⟩ := mem_rng hy
      rw [Int.toNat_natCast] at hi
      obtain ⟨z, hz, hz2⟩ := atI_rng hi
      refine ⟨_, tgt_name, ev_like (ev_ixL (ev_var rfl) (ev_var rfl) hz2) (ev_ixL (ev_var rfl) (ev_var rfl) hz2) rfl (okAll_get ha hz)⟩
  ) only [↓qt_eq])
/-! ### a law's loop -/
end
end U


end
section
namespace U
open PySem PyProof.Rows L2 Evl
local macro_rules | `(tactic| walk_at "ev1") => `(tactic| first
  | exact ev_int | exact ev_bl | exact ev_str | exact ev_non | exact ev_var rfl | exact ea_nil | exact eo_none
  | with_reducible apply ev_ixDisp | with_reducible apply ev_fst | with_reducible apply ev_snd
  | with_reducible apply ev_add | with_reducible apply ev_sub | with_reducible apply ev_mul | with_reducible apply ev_fdiv | with_reducible apply ev_mod | with_reducible apply ev_pow
  | with_reducible apply ev_lt | with_reducible apply ev_le | with_reducible apply ev_gt | with_reducible apply ev_ge
  | with_reducible apply ev_eqI | with_reducible apply ev_neI
  | with_reducible apply ev_neg | with_reducible apply ev_subB | with_reducible apply ev_isNo | with_reducible apply ev_noNo
  | with_reducible apply ev_not | with_reducible apply et_test | with_reducible apply et_B | with_reducible apply et_not
  | with_reducible apply ev_abs | with_reducible apply ev_max | with_reducible apply ev_min | with_reducible apply ev_intB
  | with_reducible apply ev_gcd | with_reducible apply ev_frac | with_reducible apply ev_fadd | with_reducible apply ev_sign | with_reducible apply ev_cmpF
  | with_reducible apply ev_pull rfl
  | with_reducible apply ev_like
  | with_reducible apply ev_tup | with_reducible apply ev_lst | with_reducible apply ea_cons | with_reducible apply eo_some
  | with_reducible apply ev_order | exact ev_part rfl | exact ev_far rfl | exact ev_farPart rfl
  | (with_reducible show List.length _ ≤ 16000000; (simp; done)) | (with_reducible show (0 : Int) < _; decide) | (with_reducible show (_ : Int) < 1000000000000; decide) | (with_reducible show CPow _ _; (unfold CPow; decide)) | (with_reducible show CNz _ _; (unfold CNz; decide))
  | with_reducible apply sg_ret | with_reducible apply sg_asg | with_reducible apply sg_next)
local macro_rules | `(tactic| walk_at "ln") => `(tactic| first | walk_at "ev1" | with_reducible apply sg_seq)
section

noncomputable def isPart2 : PyData → PyData → Bool
  | .int a, .int b => decide (0 < b) && decide (gI a b = 1)
  | _, _ => false
noncomputable def isPart : PyData → Bool
  | .tuple [p, q] => isPart2 p q
  | _ => false
section
variable {K : Fg} {G : Gam} {s s1 s2 s' : Bag} {ta tb te : TE} {x y : PyData} {E : XK}
end
section
variable {K : Fg}
-- slots of is_whole: 0 thing
-- slots of shared: 0 one, 1 other
-- slots of is_part: 0 thing
-- slots of _law_wild: 0 _law_bag_here, 1 _law_things
end

end
end U
end
section
/-! Own exception classes over any of four built-in bases, their __init__ walked as a def. -/
namespace U
open PySem PySem.W PyProof.Rows L2 Evl
structure OxC (K : Fg) (C : Addr) (B newId initId : String) (bmB : List Value) : Prop where
  fb : ExcBaseFacts B newId initId bmB
  sf : StoreFacts B bmB "object.__setattr__" "object"
  ov : excOver K C bmB = true
  mkC : excInitIn K C bmB newId = true
  hd : hasDictIn K C = true
  sa : findIn K (.ref C) "__setattr__" = some (some (.builtin "object.__setattr__"))
  exC : subIn K (.ref C) (.type "BaseException") = some true
  tyC : typeIn K (.ref C) = some (.type "type")
  kC : keepIn K (.ref C) = true
section
open Builtin Builtin.ObjectAttr
variable {prog : Program} {w : World} {A : Around} {R : Result → Shared → Prop} {hp : Heap} {g : Array GenState} {d : Drawn} {t : Nat} {os : OsState} {K : Fg} {C x : Addr} {B newId initId : String} {bmB : List Value} {name : Str} {tk : Tok} {v : Value} {fv : Array Value}
theorem taker_none (h : findIn K (.ref C) name = some none) : takerIn K C name = some none := by
  unfold takerIn
  rw [h]
  rfl
theorem has_dict (h : hasDictIn K C = true) : ∃ cd, clsIn K C = some cd ∧ cd.hasDict = true := by
  unfold hasDictIn at h
  cases e : clsIn K C with
  | none => rw [e] at h; cases h
  | some cd => rw [e] at h; exact ⟨cd, rfl, h⟩
/-- the first field of an exception that has no dict yet -/
theorem osa_first (T : OxC K C B newId initId bmB) (X : K.In hp) (hx : hp.get? x = some { cls := .ref C, data := .fields fv }) (ha : findIn K (.ref C) name = some none)
    (hq : ∀ h' tk' dx, (∀ b o, b ≠ x → hp.get? b = some o → h'.get? b = some o) → hp.objs.size ≤ dx → dx ≠ x →
      h'.get? x = some { cls := .ref C, dict := some dx, data := .fields fv } → h'.Ns1 dx (fun y => if y = name then some v else none) → R (.ok (.ret .none)) ⟨h', g, d, tk', os⟩) :
    codeAny (model prog w) A (.call (.builtin "object.__setattr__") ⟨[.ref x, .str name tk, v], []⟩) R ⟨hp, g, d, t, os⟩ := qt_of (by simp (disch := with_unfolding_all
  have I : InstAt hp x { cls := .ref C, data := .fields fv } C none := ⟨hx, rfl, rfl, trivial⟩
  have hxs : x ≠ hp.objs.size := Nat.ne_of_lt (Heap.lt_size hx)
  obtain ⟨cd, hcd, hh⟩ := has_dict T.hd
  have hcls : Looks (model prog w) hp (classData C) cd := looks_clsIn X hcd
  refine osa_openX (s := ⟨hp, g, d, t, os⟩) T.sf X I T.ov (taker_none ha) fun b => ?_
  obtain ⟨nm, bs, mro, ns, qn, hdv, sn, sb, ab, col, del⟩ := cd
  dsimp only at hh
  subst hh
  show wpAny _ _ (storeInOwnDict (.ref x) (.ref C) (.str name tk) name v b) _ _ _
  unfold storeInOwnDict ownDictForStores
  cases b <;>
  repeat (first | with_reducible refine HandSPX.store_in_new ?_ ?_ | with_reducible refine wpAny_loadPart_at hx ?_ | with_reducible refine hcls.at ?_ | wp_step)
  case' false.h.h.h.hq.refine_1 => skip
  all_goals first
    | exact ⟨_, #[], _, (Heap.get?_update_ne _ _ _ _ hxs.symm).trans (Heap.get?_push_at rfl rfl), rfl, (fun e he => absurd he (by simp)), (fun _ => rfl)⟩
    | (intro h2 tk2 hn2 hs2
       have hx1 : (hp.push { cls := .type "dict", data := .dict #[] }).get? x = some ⟨.ref C, none, .fields fv, #[]⟩ := Heap.get?_push_of_some _ hx
       refine hq h2 tk2 hp.objs.size (fun b o hb ho => ?_) (Nat.le_refl _) hxs.symm ?_ hn2
       · have e1 := hs2.2 b (Nat.ne_of_lt (Heap.lt_size ho))
         exact e1.trans ((Heap.get?_update_ne _ _ _ _ hb).trans (Heap.get?_push_of_some _ ho))
       · have e1 := hs2.2 x hxs
         exact e1.trans (Heap.get?_update_self _ hx1 rfl))
  ) only [↓qt_eq])
/-- a further field -/
theorem osa_more {dx : Addr} {m0 : Str → Option Value} {nl : List Str} (T : OxC K C B newId initId bmB) (X : K.In hp) (hx : hp.get? x = some { cls := .ref C, dict := some dx, data := .fields fv }) (ha : findIn K (.ref C) name = some none)
    (hns : hp.Ns1 dx m0) (hw : Within m0 nl) (hz : nl.length ≤ 1000)
    (hq : ∀ h' tk', (∀ b o, b ≠ dx → hp.get? b = some o → h'.get? b = some o) → h'.Ns1 dx (fun y => if y = name then some v else m0 y) →
      R (.ok (.ret .none)) ⟨h', g, d, tk', os⟩) :
    codeAny (model prog w) A (.call (.builtin "object.__setattr__") ⟨[.ref x, .str name tk, v], []⟩) R ⟨hp, g, d, t, os⟩ := qt_of (by simp (disch := with_unfolding_all
  obtain ⟨oD, esD, epD, hoD, hdD, _⟩ := hns.count hw
  have I : InstAt hp x { cls := .ref C, dict := some dx, data := .fields fv } C (some oD) := ⟨hx, rfl, rfl, hoD⟩
  obtain ⟨cd, hcd, hh⟩ := has_dict T.hd
  have hcls : Looks (model prog w) hp (classData C) cd := looks_clsIn X hcd
  refine osa_openX (s := ⟨hp, g, d, t, os⟩) T.sf X I T.ov (taker_none ha) fun b => ?_
  obtain ⟨nm, bs, mro, ns, qn, hdv, sn, sb, ab, col, del⟩ := cd
  dsimp only at hh
  subst hh
  show wpAny _ _ (storeInOwnDict (.ref x) (.ref C) (.str name tk) name v b) _ _ _
  unfold storeInOwnDict ownDictForStores
  cases b <;>
  repeat (first | with_reducible refine OEX.store_in_old hns hw hz ?_ | with_reducible refine wpAny_loadPart_at hx ?_ | with_reducible refine hcls.at ?_ | wp_step)
  all_goals
    intro h2 tk2 hn2 hs2
    exact hq h2 tk2 (fun b o hb ho => (hs2.2 b hb).trans ho) hn2
  ) only [↓qt_eq])
end
section
variable {X : Cx} {pins : List (Addr × Obj)} {σ : St} {H : Hp} {s : Shared} {a C dx : Addr} {f : Str} {y : V} {u : Value} {fs : List (Str × V)} {Q : Unit → Shared → Prop} {E : Value → Shared → Prop} {A : Around} {B newId initId : String} {bmB : List Value}
theorem ox_new (T : OxC X.K C B newId initId bmB) (I : Inv X pins σ H s) (e : H a = some (exo a C none)) (hno : findIn X.K (.ref C) f = some none) (ry : RelV y u)
    (h : ∀ dx s', H dx = none → dx ≠ a → Inv X pins σ (upd (upd H dx (exd dx [(f, y)])) a (exo a C (some dx))) s' → Q () s') :
    wpAny (model X.prog X.w) A (setAttr (.ref a) f u) Q E s := qt_of (by simp (disch := with_unfolding_all
  obtain ⟨t1, ho⟩ := exo_at I.hok e
  obtain ⟨hp, g, d, t, os⟩ := s
  refine set_plain I.kIn (od := none) ⟨ho, rfl, rfl, trivial⟩ T.sa ?_
  refine osa_first T I.kIn ho hno fun h2 tk2 dx k dn dne hx hn => ?_
  have hnd : H dx = none := I.hok.fresh dn
  have nd : ∀ {b : Addr} {o : Obj}, hp.get? b = some o → b ≠ dx := fun {b o} q =>
    Nat.ne_of_lt (Nat.lt_of_lt_of_le (Heap.lt_size q) dn)
  have na : ∀ {b : Addr}, H b = none → b ≠ a := fun {b} n z => by
    subst z
    rw [e] at n
    cases n
  have un : Un X.fs [] H (upd (upd H dx (exd dx [(f, y)])) a (exo a C (some dx))) hp h2 := by
    refine ⟨fun b o q n _ _ => k b o (na n) q, fun b o q n _ _ => ⟨o.slots, k b o (na n) q⟩, fun b o q n _ => ?_, fun b o q _ => ?_, fun b xs q => ?_, fun b o v q => ?_, fun b ps q => ⟨#[], ?_⟩⟩
    · rw [upd_ne (na n), upd_ne (nd q)]
      exact n
    · by_cases hb : b = a
      · subst hb
        exact ⟨_, hx⟩
      · exact ⟨o, k b o hb q⟩
    · rw [upd_ne (at_ne e q exo_tup), upd_ne (ne_of_none q hnd)]
      exact q
    · rw [upd_ne (at_ne e q exo_frz), upd_ne (ne_of_none q hnd)]
      exact q
    · rw [upd_ne (at_ne e q exo_tbl), upd_ne (ne_of_none q hnd), q]
      simp
  refine h dx _ hnd dne (I.un (t' := tk2) un fun b o q => ?_)
  by_cases hb : b = a
  · subst hb
    rw [upd_same] at q
    cases q
    exact exo_ok hx
  rw [upd_ne hb] at q
  by_cases hd : b = dx
  · subst hd
    rw [upd_same] at q
    cases q
    exact exd_ok hn (relO_put (fs := []) ry fun _ => True.intro)
  rw [upd_ne hd] at q
  refine (I.hok b o q).stay (fun c v hc z => k c v ?_ z) (fun c hc => ?_) (fun c xs hc => ?_)
  · rcases hc with rfl | hc
    · exact hb
    · exact at_ne e hc exo_own
  · rw [upd_ne (at_ne e hc exo_own), upd_ne (ne_of_none hc hnd)]
    exact hc
  · rw [upd_ne (at_ne e hc exo_tup), upd_ne (ne_of_none hc hnd)]
    exact hc
  ) only [↓qt_eq])
theorem ox_old (T : OxC X.K C B newId initId bmB) (I : Inv X pins σ H s) (e : H a = some (exo a C (some dx))) (ed : H dx = some (exd dx fs)) (hl : fs.length ≤ 900) (hno : findIn X.K (.ref C) f = some none) (ry : RelV y u)
    (h : ∀ s', Inv X pins σ (upd H dx (exd dx ((f, y) :: fs))) s' → Q () s') :
    wpAny (model X.prog X.w) A (setAttr (.ref a) f u) Q E s := qt_of (by simp (disch := with_unfolding_all
  obtain ⟨t1, ho⟩ := exo_at I.hok e
  obtain ⟨mA, hns, rel⟩ := exd_at I.hok ed
  have hw := within_of rel
  obtain ⟨hp, g, d, t, os⟩ := s
  obtain ⟨oD, _, _, hoD, _, _⟩ := hns.count hw
  refine set_plain I.kIn (od := some oD) ⟨ho, rfl, rfl, hoD⟩ T.sa ?_
  refine osa_more T I.kIn ho hno hns hw (by rw [List.length_map]; omega) fun h2 tk2 k hn => ?_
  have hd : ∃ o, h2.get? dx = some o := by
    obtain ⟨o, _, _, e2, _⟩ := hn
    exact ⟨o, e2⟩
  exact h _ (I.write (t' := tk2) (x := dx) (e := dx) (by rw [ed]; exact True.intro) (.inl rfl) k hd (exd_ok hn (relO_put ry rel)))
  ) only [↓qt_eq])
/-- what is promised by an own exception's class -/
structure OxK (K : Fg) (C : Addr) : Prop where
  ex : ∃ B newId initId bmB, OxC K C B newId initId bmB
/-- self.f = e, upon an exception that is being made -/
noncomputable def tOx (K : Fg) (f : Str) (to te : TE) : TS := fun D σ H => te σ H fun y H1 => to σ H1 fun x H2 => ∃ a C : Addr, x = .ref a ∧ OxK K C ∧ findIn K (.ref C) f = some none ∧
  ((H2 a = some (exo a C none) ∧ ∀ dx, H2 dx = none → dx ≠ a → D.nx σ (upd (upd H2 dx (exd dx [(f, y)])) a (exo a C (some dx)))) ∨
    ∃ (dx : Addr) (fs : List (Str × V)), H2 a = some (exo a C (some dx)) ∧ H2 dx = some (exd dx fs) ∧ fs.length ≤ 900 ∧ D.nx σ (upd H2 dx (exd dx ((f, y) :: fs))))
/-- C(e, ..), C's own __init__ keeping sp -/
noncomputable def tMkX (C : Addr) (sp : Sp) (dvs : List V) (ta : TA) : St → Hp → XK → Prop := fun σ H Q => ta σ H fun vs H1 => vs.length ≤ 1000 ∧ ∀ a, H1 a = none →
  sp (.ref a :: (vs ++ dvs)) (upd H1 a (exo a C none)) (fun v H2 => v = .non ∧ ∃ (d : Addr) (fs : List (Str × V)), H2 a = some (exo a C (some d)) ∧ H2 d = some (exd d fs) ∧ H1 d = none ∧
    Q (.ref C) (some d) (upd (del H2 a) d (.xd fs))) (fun _ _ _ => False)
end
section
variable {X : Cx} {o e : Expr} {es : List Expr} {to te : TE} {ta : TA} {f : Str} {p p' p1 p2 pos : Pos}
theorem ps_ox (ho : PE X o to) (he : PE X e te) (hs : swapsWith e (some (.Attribute o f p')) pos.line X.env = pure false := by rfl) :
    PS X (.Assign [.Attribute o f p'] e pos) (tOx X.K f to te) := by
  refine ⟨fun pins s σ H D I h => ?_⟩
  refine plainObj_wpAny_Assign_Attribute (thn (he.run pins s σ H _ I h) fun v s1 hh => ?_) hs
  obtain ⟨y, H1, I1, r1, q1⟩ := hh
  refine thn (ho.run pins s1 σ H1 _ I1 q1) fun u s2 hh => ?_
  obtain ⟨x, H2, I2, r2, a, C, ex, T, hno, q⟩ := hh
  subst ex
  obtain rfl : u = Value.ref a := r2
  obtain ⟨B, n1, n2, bm, T⟩ := T.ex
  rcases q with ⟨ea, q⟩ | ⟨dx, fs, ea, ed, hl, q⟩
  · exact ox_new T I2 ea hno r1 fun dx s' n ne J => ⟨σ, _, J, q dx n ne⟩
  · exact ox_old T I2 ea ed hl hno r1 fun s' J => ⟨σ, _, J, q⟩
/-- the call of the class, once the arguments are there -/
theorem made_ox {CX : CXT} {C fI : Addr} {k : Nat} {fd : FuncData} {ps : List Str} {sp : Sp} {ds : List Value} {dvs vs : List V} {us : List Value} {pins : List (Addr × Obj)} {σ : St} {H : Hp} {s : Shared} {Q : XK} (T : OxK X.K C)
    (iC : findIn X.K (.ref C) "__init__" = some (some (.ref fI))) (tI : typeIn X.K (.ref fI) = some (.type "function")) (F1 : FnOk X.prog X.w X.K X.mg X.base CX k fI fd ps sp) (hr : Room (k + 1) X.A) (hb : Binds X.K fd ps ds) (hd : Vals dvs ds)
    (hx : Passes CX X (fun _ _ _ => False)) (I : Inv X pins σ H s) (r1 : Vals vs us) (hz : vs.length ≤ 1000)
    (h : ∀ a, H a = none → sp (.ref a :: (vs ++ dvs)) (upd H a (exo a C none)) (fun v H2 => v = .non ∧ ∃ (d : Addr) (fs : List (Str × V)), H2 a = some (exo a C (some d)) ∧ H2 d = some (exd d fs) ∧ H d = none ∧
      Q (.ref C) (some d) (upd (del H2 a) d (.xd fs))) (fun _ _ _ => False)) :
    wpAny (model X.prog X.w) X.A (call (.ref C) us) (MkP X pins σ Q) X.xe s := qt_of (by simp (disch := with_unfolding_all
  obtain ⟨B, n1, n2, bm, T⟩ := T.ex
  obtain ⟨hp, g, dr, tk, os⟩ := s
  obtain ⟨nm, N', qn, bs, bm', hdct, sn, sub, ab, col, dd, k0, k1, k2, k3, k5, hC, hT⟩ := excInit_of I.kIn T.mkC
  have hsz : hp.objs.size ≤ hp.objs.size + 1 := Nat.le_succ _
  have hn : H (hp.objs.size + 1) = none := I.hok.fresh hsz
  have hq := h (hp.objs.size + 1) hn
  have kk : ∀ b o, hp.get? b = some o → ((hp.push (kdv_tup us)).push (HandSPX.excO C hp.objs.size)).get? b = some o := fun b o e =>
    Heap.get?_push_of_some _ (Heap.get?_push_of_some _ e)
  have hget : ((hp.push (kdv_tup us)).push (HandSPX.excO C hp.objs.size)).get? (hp.objs.size + 1) = some (HandSPX.excO C hp.objs.size) := by heap_get
  have I2 := I.laid (t' := tk) (a := hp.objs.size + 1) (o := exo (hp.objs.size + 1) C none) (h' := (hp.push (kdv_tup us)).push (HandSPX.excO C hp.objs.size)) kk hsz (exo_ok hget)
  have r2 : Vals (V.ref (hp.objs.size + 1) :: (vs ++ dvs)) (Value.ref (hp.objs.size + 1) :: (us ++ ds)) := .cons rfl (r1.append hd)
  have hl : (Value.ref (hp.objs.size + 1) :: us ++ ds).length = ps.length := by
    rw [← F1.len _ _ _ _ hq]
    exact r2.length.symm
  have hus : us.length ≤ sizeLine := by
    rw [← Paired.length r1, sizeLine_eq]
    omega
  refine wpAny_call (HandSPX.call_own T.fb hT hC (looks_findIn I.kIn iC) (fun self => bind_fn I.kIn self tI) hus ?_)
  refine codeAny_mono (F1.run _ X.stack _ _ ⟨Value.ref (hp.objs.size + 1) :: us, []⟩ (Value.ref (hp.objs.size + 1) :: (us ++ ds)) _ _ (fun _ _ _ => False) (hr.make C us []) (I2.env0.make C us []) (hb _ _ I2.kIn hl) r2 hq) fun r s' hq' => ?_
  cases r with
  | error er => exact hx pins σ _ _ er s' I2 hq'
  | ok fl =>
    cases fl with
    | ret u =>
      obtain ⟨v, H2, os2, bare2, un2, hok2, rv, ev, d, fs, ea, ed, hd1, q2⟩ := hq'
      subst ev
      obtain ⟨h2, g2, d2, t2, os'⟩ := s'
      exact ⟨rv, mk_end (raises_own T.exC T.tyC) I hsz kk un2 hok2 os2 bare2 ea ed hd1 q2⟩
    | next => exact False.elim hq'
    | brk => exact False.elim hq'
    | cont => exact False.elim hq'
  ) only [↓qt_eq])
theorem pmk_ox {CX : CXT} {x : Str} {C fI : Addr} {k : Nat} {fd : FuncData} {ps : List Str} {sp : Sp} {ds : List Value} {dvs : List V} (T : OxK X.K C) (kC : keepIn X.K (.ref C) = true)
    (iC : findIn X.K (.ref C) "__init__" = some (some (.ref fI))) (tI : typeIn X.K (.ref fI) = some (.type "function")) (F1 : FnOk X.prog X.w X.K X.mg X.base CX k fI fd ps sp) (hr : Room (k + 1) X.A) (hb : Binds X.K fd ps ds) (hd : Vals dvs ds)
    (hx : Passes CX X (fun _ _ _ => False)) (hg : Gl X x) (hm : X.mg x = some (.ref C)) (ha : PA X (e :: es) ta) (hdb : (x == ("__debug__" : Str)) = false := by decide)
    (he : starEach (e :: es) X.env = (false, eval e X.env) :: starEach es X.env := by rfl) (hpl : (backTo pos (starEach es X.env)).any (·.1) = false := by rfl) :
    PMk X (.Call (.Name x p) (e :: es) [] pos) (tMkX C sp dvs ta) := by
  intro pins s σ H Q I h
  refine wpAny_Call_Name_kw (ld_glob I hg hm ?_ hdb)
  refine callWith_K (h₀ := X.base) I.ok.mod.kin kC (thn (ha.run pos pins s σ H _ I h) fun us s1 hh => ?_) he hpl
  obtain ⟨vs, H1, I1, r1, hz, q1⟩ := hh
  exact ⟨I1.kIn, made_ox T iC tI F1 hr hb hd hx I1 r1 hz q1⟩
theorem pmk_ox0 {CX : CXT} {x : Str} {C fI : Addr} {k : Nat} {fd : FuncData} {ps : List Str} {sp : Sp} {ds : List Value} {dvs : List V} (T : OxK X.K C) (kC : keepIn X.K (.ref C) = true)
    (iC : findIn X.K (.ref C) "__init__" = some (some (.ref fI))) (tI : typeIn X.K (.ref fI) = some (.type "function")) (F1 : FnOk X.prog X.w X.K X.mg X.base CX k fI fd ps sp) (hr : Room (k + 1) X.A) (hb : Binds X.K fd ps ds) (hd : Vals dvs ds)
    (hx : Passes CX X (fun _ _ _ => False)) (hg : Gl X x) (hm : X.mg x = some (.ref C)) (hdb : (x == ("__debug__" : Str)) = false := by decide) :
    PMk X (.Call (.Name x p) [] [] pos) (tMkX C sp dvs tNil) := by
  intro pins s σ H Q I h
  refine wpAny_Call_Name_kw (ld_glob I hg hm ?_ hdb)
  exact callWith_K0 I.kIn kC (made_ox (us := []) (vs := []) T iC tI F1 hr hb hd hx I .nil (by show 0 ≤ 1000; decide) h.2)
end
end U

end
section
/-! Raising, over data: promises of defs that may raise, judgements of what raises, try .. except .. as. -/
namespace U
open PySem PyProof.Rows L2 Evl
/-- an exception: its class's name, its fields -/
structure Xw where
  cls : Str
  fs : List (Str × V)
noncomputable abbrev Cs := Str → Addr
section
variable {K : Fg} {cs : Cs} {W : WX} {G G' G1 G2 : Gam} {s s1 s2 s3 s' : Bag} {ta tb tc te : TE} {t u : TT} {x y z : PyData} {tu tw tz : TS} {o : Out} {e : Xw}
/-! ### raise C(..) -/
/-- what an own exception's __init__ promises: its fields by its arguments -/
noncomputable def spIn (K : Fg) (nm : List Str) (g : List V → Option (List (Str × V))) : Sp := fun vs H Q _ => ∃ (a C : Addr) (ws : List V) (fs : List (Str × V)), vs = .ref a :: ws ∧ H a = some (exo a C none) ∧ OxK K C ∧ (∀ n ∈ nm, PySem.W.findIn K (.ref C) n = some none) ∧ g ws = some fs ∧
  ∀ d H', H d = none → H' a = some (exo a C (some d)) → H' d = some (exd d fs) → (∀ b, b ≠ a → b ≠ d → H' b = H b) → Q .non H'
noncomputable def tRaiseX (C : Addr) (sp : Sp) (dvs : List V) (ta : TA) (W : WX) : TS := fun _ σ H => tMkX C sp dvs ta σ H fun cls d H' => W cls d σ H'
theorem mk_read {C : Addr} {nm : List Str} {g : List V → Option (List (Str × V))} {dvs : List V} {ta : TA} {σ : St} {H : Hp} {Q : XK} {fs : List (Str × V)} (ox : OxK K C) (hn : ∀ n ∈ nm, PySem.W.findIn K (.ref C) n = some none)
    (h : ta σ H fun vs H1 => vs.length ≤ 1000 ∧ g (vs ++ dvs) = some fs ∧ ∀ d, H1 d = none → Q (.ref C) (some d) (upd H1 d (.xd fs))) (mono : ∀ (Q1 Q2 : List V → Hp → Prop), (∀ vs H1, Q1 vs H1 → Q2 vs H1) → ta σ H Q1 → ta σ H Q2) : tMkX C (spIn K nm g) dvs ta σ H Q := by
  refine mono _ _ (fun vs H1 hq => ?_) h
  obtain ⟨hl, hg, q⟩ := hq
  refine ⟨hl, fun a ha => ⟨a, C, vs ++ dvs, fs, rfl, upd_same, ox, hn, hg, fun d H2 hd h1 h2 h3 => ?_⟩⟩
  have hda : d ≠ a := fun z => by rw [z, upd_same] at hd; cases hd
  rw [upd_ne hda] at hd
  refine ⟨rfl, d, fs, h1, h2, hd, ?_⟩
  have e : upd (del H2 a) d (.xd fs) = upd H1 d (.xd fs) := by
    funext b
    by_cases hb : b = d
    · rw [hb, upd_same, upd_same]
    · rw [upd_ne hb, upd_ne hb]
      by_cases ha2 : b = a
      · rw [ha2, del_same, ha]
      · rw [del_ne ha2, h3 b ha2 hb, upd_ne ha2]
  rw [e]
  exact q d hd
end
section
variable {Pg : Program} {w : World} {K : Fg} {mg : Str → Option Value} {base : Heap} {cs : Cs}
/-- a def's own wish -/
noncomputable abbrev WD (E : XK) : WX := fun cls d _ H => E cls d H
end
/-! ### try .. except C as why -/
section
variable {K : Fg} {cs : Cs} {G G' G1 : Gam} {s s1 s' : Bag} {x : PyData} {e : Xw}
end
end U

end
section
/-! Defs with defaults and keyword-only parameters; the refusals' own __init__. -/
namespace U
open PySem PyProof.Rows L2 Evl
section
variable {Pg : Program} {w : World} {K : Fg} {mg : Str → Option Value} {base : Heap} {cs : Cs}
/-- all given though there are defaults -/
theorem binds_all {x qual : Str} {params : Arguments} {body : List Stmt} {scope : Scope} {dvs : List V} {kws : List (Str × V)} {f : Addr} {fd : FuncData} {ps : List Str} (F : FunD K x qual params body scope dvs kws f fd) (hd : dvs ≠ [])
    (h : ∀ (T : Addr) (kV doc pm : Value) (an : Option Addr) (cdv ct : Value) (us its : List Value), us.length = ps.length → its.length = dvs.length →
      ∃ k, bindArgs (PySem.W.fnOf x qual params body scope (.ref T) kV doc pm an cdv ct) ⟨us, []⟩ = seqItems? (.ref T) >>= k ∧ k (some its.toArray) = pure (ps.zip us)) : Binds K fd ps [] := qt_of (by simp (disch := with_unfolding_all
  obtain ⟨ds, r, b⟩ := F.binds1 (ps := ps) ps.length dvs.length hd (by omega) (fun T kV doc pm an cdv ct us its l1 l2 => by
    obtain ⟨k, e1, e2⟩ := h T kV doc pm an cdv ct us its l1 l2
    refine ⟨k, e1, ?_⟩
    rw [e2, List.drop_eq_nil_of_le (by omega), List.append_nil])
  rw [List.drop_eq_nil_of_le (Nat.le_refl _)] at r
  cases r
  exact b
  ) only [↓qt_eq])
end
section
variable {K : Fg} {cs : Cs} {W : WX} {G G' G1 G2 : Gam} {s s1 s2 s3 s' : Bag} {ta tb tc te : TE} {t u : TT} {x y z : PyData}
end
/-! ### Flat -/
noncomputable abbrev W0 : WX := fun _ _ _ _ => False
end U

end
section
namespace U
open PySem PyProof.Rows L2 Evl
/-- what is told of an own exception class by its name -/
structure ClsF (K : Fg) (cs : Cs) (c : Str) (nm : List Str) : Prop where
  ox : OxK K (cs c)
  no : ∀ n ∈ nm, PySem.W.findIn K (.ref (cs c)) n = some none
section
variable {K : Fg}
theorem fund_mk {x qual : Str} {st : Stmt} {f T : Addr} {oc ot : Value} {od odt an : Option Addr} {osl osT : Array (Option Value)} {kV doc pm cdv ct : Value} {its : List Value} {n : Nat} {dvs : List V}
    (l : K.lookup f = some ⟨oc, od, .func (PySem.W.fnOf x qual (defArgs st) (defBody st) (defScope st) (.ref T) kV doc pm an cdv ct), osl⟩)
    (c : PySem.W.codeIn K cdv qual = true) (k : PySem.W.keepIn K (.ref f) = true) (t : K.lookup T = some ⟨ot, odt, .seq its.toArray n, osT⟩) (r : Vals dvs its) (hd : dvs ≠ []) :
    FunD K x qual (defArgs st) (defBody st) (defScope st) dvs [] f (PySem.W.fnOf x qual (defArgs st) (defBody st) (defScope st) (.ref T) kV doc pm an cdv ct) :=
  ⟨⟨oc, od, _, kV, doc, pm, an, cdv, ct, osl, rfl, l, c, .inr ⟨hd, T, _, its, n, rfl, t, rfl, r⟩, .inl rfl⟩, k⟩
/-- exmOne of own classes -/
theorem em_of {C : Addr} {cls : Value} {b : Bool} (h1 : PySem.W.subIn K (.ref C) (.type "BaseException") = some true) (hdct : PySem.W.hasDictIn K C = true) (ht : PySem.W.typeIn K (.ref C) = some (.type "type")) (h4 : PySem.W.subIn K cls (.ref C) = some b) : PySem.W.exmOne K cls (.ref C) = some b := PySem.W.exm_ref h1 hdct ht h4
end
end U

end
section
/-! Own exceptions whose __init__ calls the base class's own. -/
namespace U
open PySem PySem.W PyProof.Rows L2 Evl
/-- C.m(e, ..), C an own class, m a plain def of it -/
theorem pe_up {X : Cx} {CX : CXT} {k : Nat} {x m : Str} {C g : Addr} {mc : Value} {fd : FuncData} {ps : List Str} {sp : Sp} {E : XK} {ds : List Value} {dvs : List V} {e : Expr} {es : List Expr} {t : TA} {p pos apos : Pos} {pl : Sem Bool}
    (hg : Gl X x) (hm : X.mg x = some (.ref C)) (rd : readsIn X.K C mc = true) (ga : specialIn X.K (.ref C) "__getattribute__" = some (some (.builtin "type.__getattribute__"))) (fa : findCls X.K (.ref C) mc m = some (.val (.ref g)))
    (hk : keepIn X.K (.ref g) = true) (F : FnOk X.prog X.w X.K X.mg X.base CX k g fd ps sp) (hr : Room k X.A) (hb : Binds X.K fd ps ds) (hd : Vals dvs ds) (hx : Passes CX X E) (ha : PA X (e :: es) t) (hdb : (x == ("__debug__" : Str)) = false := by decide)
    (ht : eval (.Call (.Attribute (.Name x p) m apos) (e :: es) [] pos) X.env = (do
      let ov ← eval (.Name x p) X.env
      standAt apos.atName
      let (f, first) ← holding [ov] (getMethod ov m pl)
      callWith pos f first (backTo pos (starEach (e :: es) X.env)) (backToKw pos (keywordEach [] X.env))) := by rfl)
    (he : starEach (e :: es) X.env = (false, eval e X.env) :: starEach es X.env := by rfl) (hpl : (backTo pos (starEach es X.env)).any (·.1) = false := by rfl) :
    PE X (.Call (.Attribute (.Name x p) m apos) (e :: es) [] pos) (tCall sp dvs E t) := by
  refine ⟨fun pins s σ H Q I h => ?_⟩
  refine methodCall_KW (pl := pl) (ld_glob I hg hm ?_ hdb) ht
  refine method_cls I.kIn ga (cls_value I.kIn rd fa rfl ?_)
  show wpAny _ _ (callWith pos (.ref g) [] (backTo pos (starEach (e :: es) X.env)) []) _ _ _
  refine callWith_K (h₀ := X.base) I.ok.mod.kin hk (thn (ha.run pos pins _ σ H _ (I.tok _) h) fun us s1 hh => ?_) he hpl
  obtain ⟨vs, H1, I1, r, q⟩ := hh
  exact ⟨I1.kIn, run_fn F hr hb hd hx I1 r q⟩
/-- self.word = word -/
noncomputable abbrev gWd : List V → Option (List (Str × V)) := fun ws => match ws with
  | [v] => some [("word", v)]
  | _ => none
/-- a word that is always the same -/
noncomputable abbrev gCw (w : Str) : List V → Option (List (Str × V)) := fun ws => match ws with
  | [] => some [("word", .str w)]
  | _ => none
noncomputable def t_Wd (K : Fg) : TS := tOx K "word" (tVar 0) (tVar 1)
section
variable {Pg : Program} {w : World} {K : Fg} {mg : Str → Option Value} {base : Heap} {cs : Cs}
theorem okWd {st : Stmt} {qual : Str} {dvs : List V} {f : Addr} {fd : FuncData} {k : Nat} (F : FunD K "__init__" qual (defArgs st) (defBody st) (defScope st) dvs [] f fd) (S : FnScope ["self", "word"] ["self", "word"] (defScope st))
    (hb : ∀ (cdv : Value) (A : Around) (outer : List Env) (sh : Shared) (H : Hp) (E : XK), PSs (cxOf CX0 Pg w K mg base ["self", "word"] qual (defScope st) f cdv A outer sh H E) (defBody st) (t_Wd K)) : FnOk Pg w K mg base CX0 (k + 1) f fd ["self", "word"] (spIn K ["word"] gWd) := qt_of (by simp (disch := with_unfolding_all
  refine F.ok S (fun vs H Q E h => ?_) (fun cdv A outer sh H vs Q E hr h => ?_)
  · obtain ⟨a, C, ws, fs, rfl, _, _, _, hg, _⟩ := h
    match ws, hg with
    | [v], _ => rfl
  · obtain ⟨a, C, ws, fs, rfl, ha, ox, hn, hg, q⟩ := h
    match ws, hg with
    | [v], hg =>
      cases hg
      refine ⟨_, hb cdv A outer sh H E, ?_⟩
      refine ⟨v, rfl, .ref a, rfl, a, C, rfl, ox, hn _ (List.mem_singleton.mpr rfl), .inl ⟨ha, fun d hd hda => ?_⟩⟩
      exact q d _ hd upd_same (by rw [upd_ne hda, upd_same]) fun b h1 h2 => by rw [upd_ne h1, upd_ne h2]
  ) only [↓qt_eq])
noncomputable def t_Sub (K : Fg) (w : Str) : TS := tDrop (tCall (spIn K ["word"] gWd) [] E0 (tCons (tVar 0) (tCons (tC (V.str w)) tNil)))
theorem okSub (wd : Str) {st : Stmt} {qual : Str} {f : Addr} {fd : FuncData} {k : Nat} (F : Fun K "__init__" qual st f fd) (S : FnScope ["self"] ["self"] (defScope st))
    (hb : ∀ (cdv : Value) (A : Around) (outer : List Env) (sh : Shared) (H : Hp) (E : XK), Room k (A.deeper (envOfC qual (defScope st) sh.heap.objs.size f cdv)) → PSs (cxOf CX0 Pg w K mg base ["self"] qual (defScope st) f cdv A outer sh H E).nox (defBody st) (t_Sub K wd)) : FnOk Pg w K mg base CX0 (k + 1) f fd ["self"] (spIn K ["word"] (gCw wd)) := qt_of (by simp (disch := with_unfolding_all
  refine F.ok S (fun vs H Q E h => ?_) (fun cdv A outer sh H vs Q E hr h => ?_)
  · obtain ⟨a, C, ws, fs, rfl, _, _, _, hg, _⟩ := h
    match ws, hg with
    | [], _ => rfl
  · obtain ⟨a, C, ws, fs, rfl, ha, ox, hn, hg, q⟩ := h
    match ws, hg with
    | [], hg =>
      cases hg
      refine ⟨_, hb cdv A outer sh H E hr, ?_⟩
      exact ⟨.ref a, rfl, a, C, [.str wd], _, rfl, ha, ox, hn, rfl, fun d H' h1 h2 h3 h4 => q d H' h1 h2 h3 h4⟩
  ) only [↓qt_eq])
end
end U

end
section
namespace U
open PySem PyProof.Rows L2 Evl
/-- the values of a module's constants -/
noncomputable abbrev Gs := Str → V
section
variable {K : Fg} {cs : Cs} {W : WX} {G G' G1 : Gam} {s s1 s2 s' : Bag} {ta tb te : TE} {x y : PyData} {e : Xw}
end
end U

end
section
namespace U
open PySem PySem.W PyProof.Rows L2 Evl
section
variable {prog : Program} {w : World} {A : Around} {E : Value → Shared → Prop} {s : Shared}
end
end U

end
section
/-! zip of two things, each a list or a tuple, strict or not. -/
namespace U
open PySem PySem.W PyProof.Rows L2 Evl
inductive Kd where
  | L
  | T
noncomputable def SqK : Kd → Heap → Addr → Array Value → Prop
  | .L, h, l, xs => h.IsList l xs
  | .T, h, l, xs => h.IsTuple l xs
section
variable {prog : Program} {w : World} {A : Around} {E : Value → Shared → Prop} {s : Shared}
end
end U

end
section
/-! zip(a, b, strict=True) and zip(a, b): the end, the making. -/
namespace U
open PySem PySem.W PyProof.Rows L2 Evl
section
variable {prog : Program} {w : World} {A : Around} {E : Value → Shared → Prop} {s : Shared}
/-! ### the making -/
end
section
variable {prog : Program} {w : World} {A : Around} {E : Value → Shared → Prop} {s : Shared}
end
end U

end
section
namespace U
open PySem PySem.W PyProof.Rows L2 Evl
section
variable {prog : Program} {w : World} {A : Around} {E : Value → Shared → Prop} {s : Shared}
end
end U

end
section
namespace U
open PySem PySem.W PyProof.Rows L2 Evl
section
variable {prog : Program} {w : World} {A : Around} {E : Value → Shared → Prop} {s : Shared}
end
noncomputable def SqV (K : Fg) : Kd → Hp → Addr → List V → Prop
  | .L, H, a, xs => SqL K H a xs
  | .T, H, a, xs => SqT K H a xs
theorem SqV.inv {X : Cx} {pins : List (Addr × Obj)} {σ : St} {H : Hp} {s : Shared} {k : Kd} {a : Addr} {xs : List V} (I : Inv X pins σ H s) (h : SqV X.K k H a xs) : ∃ its, Vals xs its ∧ SqK k s.heap a its.toArray ∧ a < s.heap.objs.size := qt_of (by simp (disch := with_unfolding_all
  cases k with
  | L =>
    obtain ⟨its, rv, p, _⟩ := I.list h
    exact ⟨its, rv, p.isList, p.lt⟩
  | T =>
    obtain ⟨its, rv, p, _⟩ := I.tuple h
    obtain ⟨o, ho, _⟩ := id p
    exact ⟨its, rv, p, Heap.lt_size ho⟩
  ) only [↓qt_eq])
section
variable {M : Model} {A : Around} {E : Value → Shared → Prop} {s : Shared}
end
section
variable {X : Cx} {e e2 : Expr} {ta : TA} {p pos tpos kpos cpos : Pos} {elts : List Expr} {kk cn : Nat}
end
end U

end
section
/-! try with several clauses, each with a name -/
namespace U
open PySem PySem.Spec PyProof.Rows L2
noncomputable abbrev Hd := Value × Nat × (Addr → Value → Option Addr → TS)
noncomputable def wManyAs (K : Fg) (Wout : WX) (D : Ends) : List Hd → WX
  | [] => Wout
  | (c, i, ts) :: r => fun cls d σ H => ∃ b, PySem.W.exmOne K cls c = some b ∧ (b = true → ∀ a, H a = none → ts a cls d { nx := fun σ' H' => D.nx (σ'.set i none) H', rt := D.rt, bk := fun σ' H' => D.bk (σ'.set i none) H', ct := fun σ' H' => D.ct (σ'.set i none) H' } (σ.set i (some (.ref a))) H) ∧
    (b = false → wManyAs K Wout D r cls d σ H)
inductive HdsAs (X : Cx) : List ExceptHandler → List Hd → Prop
  | nil : HdsAs X [] []
  | cons {x n : Str} {c : Value} {i : Nat} {ts : Addr → Value → Option Addr → TS} {b₀ : Stmt} {suite : List Stmt} {np pos' : Pos} {hds : List ExceptHandler} {l : List Hd} (hN : X.N.Nodup) (hi : X.N[i]? = some n) (hln : X.env.kindOf n = some .local) (hc : Names X x c)
      (hsu : ∀ (a : Addr) (oe : Obj) (cls : Value) (d : Option Addr) (pn : List (Addr × Obj)), Zc cls d oe → (∃ vs, oe.data = .fields vs) → PSs (X.suite a ((a, oe) :: pn)) (b₀ :: suite) (ts a cls d)) (r : HdsAs X hds l) :
      HdsAs X (.ExceptHandler (some (.Name x np)) (some n) (b₀ :: suite) pos' :: hds) ((c, i, ts) :: l)
section
variable {X : Cx} {body : List Stmt} {h₀ : ExceptHandler} {hds : List ExceptHandler} {l : List Hd} {pos : Pos} {tb : WX → TS} {Wout : WX}
theorem ps_try_manyAs (hs : X.stack = X.env :: X.outer) (hf : X.env.frame = some X.env.locals) (tk : Takes X Wout)
    (hb : ∀ (W : WX) (pn : List (Addr × Obj)) (xe : Value → Shared → Prop), Takes (X.tr pn xe) W → PassesOwn (model X.prog X.w) X.A X.env xe → PSs (X.tr pn xe) body (tb W))
    (hh : HdsAs X (h₀ :: hds) l) : PS X (.Try body (h₀ :: hds) [] [] pos) (fun D σ H => tb (wManyAs X.K Wout D l) D σ H) := qt_of (by simp (disch := with_unfolding_all
  refine ⟨fun pins s σ H D I h => ?_⟩
  have ok := I.ok
  have hfr : X.A.frames = some (X.env :: X.outer) := by rw [ok.frames, hs]
  refine wpAny_Try_except ?_
  refine wpAny_mono ((hb (wManyAs X.K Wout D l) (X.pn ++ pins) (fun e s₁ => wpAny (model X.prog X.w) X.A (noteFrame e X.env) (fun _ s₂ => wpAny (model X.prog X.w) X.A (setFlight e none) (fun _ s₃ =>
    wpAny (model X.prog X.w) X.A (handleBy e X.env (h₀ :: hds)) (SP X pins D) X.xe s₃) X.xe s₂) X.xe s₁) (fun u s' xx => ?_) PassesOwn.looking).run [] s σ H D (I.toTry _) h) (fun f s1 hsp => ?_) (fun e s1 he => he)
  · -- the catch
    obtain ⟨a, B, sI, pins', σ', H', cls, d, rfl, J', nb, up, sky, na, os, ag, w⟩ := xx
    have J : Inv X pins σ' H' sI := J'.ofTry ok
    have sky' : Sky B (X.env :: X.outer) a (Zc cls d) X.env.locals s'.heap := by rw [← hs]; exact sky
    show wpAny (model X.prog X.w) X.A (noteFrame (.ref a) X.env) _ _ _
    refine Sky.land Zc.steady hfr hf sky' fun h3 fl3 up3 => ?_
    have J3 : Inv X pins σ' H' { s' with heap := h3 } := J.landed nb fl3.1 (up.trans up3) os ag
    obtain ⟨oe3, vs3, he3, hz3, hd3⟩ := fl3.there
    have notFr : ∀ {h : Heap} {o : Obj} {vs : Array Value}, h.FunFrames B (X.env :: X.outer) → h.get? a = some o → o.data = .fields vs → a ∉ L2.frs (X.env :: X.outer) := fun {h o vs} ff e dd hm => by
      obtain ⟨_, o', e', hnf⟩ := ff.mem hm
      rw [e] at e'; cases e'
      exact hnf _ dd
    have nfr := notFr fl3.2.2.1 he3 hd3
    have nL : a ≠ X.env.locals := fun z => nfr (List.mem_filterMap.mpr ⟨X.env, List.mem_cons_self, by rw [hf, z]⟩)
    have nF : a ∉ X.fs := fun hm => by
      obtain ⟨e, he, q⟩ := List.mem_filterMap.mp hm
      exact nfr (List.mem_filterMap.mpr ⟨e, List.mem_cons_of_mem _ he, q⟩)
    have S3 := J3.suite he3 hd3 na nL nF
    have go : ∀ {hds' : List ExceptHandler} {l' : List Hd}, HdsAs X hds' l' → wManyAs X.K Wout D l' cls d σ' H' →
        wpAny (model X.prog X.w) X.A (handleBy (.ref a) X.env hds') (SP X pins D) X.xe { s' with heap := h3 } := by
      intro hds' l' hk
      induction hk with
      | nil =>
        intro w
        refine wpAny_handleBy_nil ?_
        obtain ⟨k1, k2, k3, oe, vs, T, oT, ts', he, hz, hd, h1, hr⟩ := id fl3
        unfold PySem.passOn
        refine wpAny_bind (wpAny_field he hd h1 ?_)
        rw [if_neg (show ¬ ((Value.ref T == Value.none) = true) from by simp)]
        have fin : wpAny (model X.prog X.w) X.A (setFlight (.ref a) X.env.frame) (fun _ s4 => wpAny (model X.prog X.w) X.A (throw (.ref a) : Sem Flow) (SP X pins D) X.xe s4) X.xe { s' with heap := h3 } := by
          rw [hf]
          refine HandSPX.setFlight_upZ fl3 fun h4 hh4 up4 => wpAny_throw (tk _ _ ?_)
          exact ⟨a, B, sI, pins, σ', H', cls, d, rfl, J, nb, (up.trans up3).trans up4, .inr (.inr (by rw [hs]; exact hh4)), na, os, ag, w⟩
        first
          | exact wpAny_bind (wpAny_pure (wpAny_bind fin))
          | exact wpAny_bind fin
      | @cons x n c i ts b₀ suite np pos' hds2 l2 hN hi hln hc hsu r ih =>
        intro w
        have hloc : Loc X.env.scope n := .inl hln
        obtain ⟨b, hb1, hyes, hno⟩ := w
        refine wpAny_handleBy_cons (codeAny_handlers_test ?_) (by intro q; cases q)
        have LT : PySem.W.Looks (model X.prog X.w) h3 (typeOf (.ref a)) cls := fun A Q E s k q => wpAny_typeOf_ref (k _ _ he3) (by rw [hz3.1]; exact q)
        have LM := PySem.W.exm_one (M := model X.prog X.w) (J3.kIn) LT hb1
        have test : ∀ {Q : Value → Shared → Prop} {E : Value → Shared → Prop}, Q c { s' with heap := h3 } → wpAny (model X.prog X.w) (X.A.mark (some (.ref a))) (eval (.Name x np) X.env) Q E { s' with heap := h3 } := fun {Q E} q => by
          obtain ⟨hg, hdbg, hm | ⟨hm, hv, hnn⟩⟩ := hc
          · exact ld_glob (X := X.suite a ((a, oe3) :: (X.pn ++ pins))) S3 hg hm q hdbg
          · exact ld_blt (X := X.suite a ((a, oe3) :: (X.pn ++ pins))) S3 hg hm hv q hnn hdbg
        refine test (LM.here ?_)
        cases b with
        | true =>
          refine codeAny_handlers_suite_as ?_
          refine HandSPX.lands_againZ fl3 fun h4 fl4 up4 => ?_
          have J4 : Inv X pins σ' H' { s' with heap := h4 } := J.landed nb fl4.1 ((up.trans up3).trans up4) os ag
          obtain ⟨oe4, vs4, he4, hz4, hd4⟩ := fl4.there
          have S4 := J4.suite he4 hd4 na nL nF
          refine store_ok (X := X.suite a ((a, oe4) :: (X.pn ++ pins))) (v := .ref a) S4 hN hi hloc rfl (fun s5 S5 => ?_) (.inr hln)
          refine wpAny_mono ((hsu a oe4 cls d (X.pn ++ pins) hz4 ⟨_, hd4⟩).run [] s5 _ H' _ S5 (hyes rfl a na)) (fun f s6 hsp => ?_) (fun _ _ z => False.elim z)
          have end_ : ∀ {σ6 : L2.St} {H6 : Hp} {Q : Shared → Prop}, Inv (X.suite a ((a, oe4) :: (X.pn ++ pins))) [] σ6 H6 s6 → (∀ s7, Inv X pins (σ6.set i none) H6 s7 → Q s7) →
              wpAny (model X.prog X.w) X.A (do bindName X.env n .none; unbindBehindTheSuite X.env n pos') (fun _ s7 => Q s7) X.xe s6 := fun {σ6 H6 Q} S6 hq => gone_ok (S6.unsuite ok) hN hi hln hq
          cases f with
          | next =>
            obtain ⟨σ6, H6, S6, q6⟩ := hsp
            exact end_ S6 fun s7 J7 => ⟨_, _, J7, q6⟩
          | brk =>
            obtain ⟨σ6, H6, S6, q6⟩ := hsp
            exact end_ S6 fun s7 J7 => ⟨_, _, J7, q6⟩
          | cont =>
            obtain ⟨σ6, H6, S6, q6⟩ := hsp
            exact end_ S6 fun s7 J7 => ⟨_, _, J7, q6⟩
          | ret u =>
            obtain ⟨v6, σ6, H6, S6, r6, q6⟩ := hsp
            exact end_ S6 fun s7 J7 => ⟨_, _, _, J7, r6, q6⟩
        | false =>
          show wpAny _ X.A (handleBy (.ref a) X.env hds2) _ _ _
          exact ih (hno rfl)
    exact go hh w
  · cases f with
    | next =>
      obtain ⟨σ', H', J', q⟩ := hsp
      exact wpAny_execs_nil ⟨σ', H', J'.ofTry ok, q⟩
    | brk =>
      obtain ⟨σ', H', J', q⟩ := hsp
      exact ⟨σ', H', J'.ofTry ok, q⟩
    | cont =>
      obtain ⟨σ', H', J', q⟩ := hsp
      exact ⟨σ', H', J'.ofTry ok, q⟩
    | ret u =>
      obtain ⟨v, σ', H', J', r, q⟩ := hsp
      exact ⟨v, σ', H', J'.ofTry ok, r, q⟩
  ) only [↓qt_eq])
end
/-- the reading -/
noncomputable def tTryN (K : Fg) (tb : WX → TS) (l : List Hd) : TS := fun D σ H => tb (wManyAs K (fun _ _ _ _ => False) D l) D σ H
end U

end
section
/-! enumerate of a list or a tuple. -/
namespace U
open PySem PySem.W PyProof.Rows L2 Evl
section
variable {prog : Program} {w : World} {A : Around} {E : Value → Shared → Prop} {s : Shared}
end
end U

end
section
/-! list comprehensions of two and three clauses. -/
namespace U
open PySem PySem.Spec PyProof.Rows L2
/-- what a clause's rest does to the list at D -/
noncomputable abbrev TCl := Addr → St → Hp → (Hp → Prop) → Prop
section
variable {X : Cx} {own : List Nat} {D : Addr}
end
section
variable {X : Cx}
end
/-! ### the clauses' own loops -/
section
variable {prog : Program} {w : World} {A : Around} {env : Env} {D : Addr} {c elt t0 i0 i1 : Expr} {i : Nat} {ifs0 : List Expr}
end
section
variable {elt t0 i0 t1 i1 t2 i2 : Expr} {ifs0 ifs1 ifs2 : List Expr} {scope : Scope} {pos : Pos}
variable {prog : Program} {w : World} {A : Around} {env : Env} {D : Addr}
end
/-! ### the rules for use -/
section
variable {X : Cx} {elt tg iter tg1 iter1 tg2 iter2 : Expr} {ifs ifs1 ifs2 : List Expr} {scope : Scope} {own : List (Str × Nat)} {pos : Pos} {wi wi1 wi2 : TI} {g g1 g2 : TG} {tt tt1 tt2 : TT} {te : TE} {vs1 vs2 : List Nat}
end
end U

end
section
/-! first, *rest = a list or a tuple. -/
namespace U
open PySem PySem.W PyProof.Rows L2 Evl
noncomputable def gStarE (K : Fg) (t : TGs) : TG := fun v σ H Q => ∃ k p x ys, v = .ref p ∧ SqV K k H p (x :: ys) ∧ ys.length ≤ 10000 ∧ ∀ l, H l = none → t [x, .ref l] σ (upd H l (.lst ys)) Q
section
variable {prog : Program} {w : World} {A : Around} {E : Value → Shared → Prop} {s : Shared}
theorem star_T {l : Addr} {items : Array Value} {Q : List Value → Shared → Prop} (hh : A.handled = none) (hl : IsTup s.heap l items) (h0 : 1 ≤ items.size) (hz : items.size ≤ 16384)
    (h : ∀ h' tk, Heap.ExtBut s.heap.objs.size s.heap h' → wpAny (model prog w) A (newList (items.toList.drop 1) >>= fun d => pure (items.toList.take 1 ++ [d])) Q E { s with heap := h', toks := tk }) : wpAny (model prog w) A (unpackItems (.ref l) 2 (some 1)) Q E s := qt_of (by simp (disch := with_unfolding_all
  have hlt : l ≠ s.heap.objs.size := by obtain ⟨o, ho, _⟩ := hl; exact Nat.ne_of_lt (Heap.lt_size ho)
  unfold unpackItems
  refine wpAny_bind ?_
  unfold notIterableAtAll
  refine wpAny_bind (wpAny_specialOf hl.typeIs slot_tuple_iter.lookup ?_)
  refine wpAny_pure ?_
  simp only [Bool.false_eq_true, if_false]
  refine wpAny_bind (wpAny_holding (iter_tuple hl ?_))
  refine wpAny_bind (wpAny_holding (draw_tuple hlt 1 0 _ _ ⟨_, Heap.get?_push_size _ rfl, rfl, rfl⟩ (hl.push _) (by omega) fun h₁ hit₁ hs₁ => ?_))
  have hl₁ : IsTup h₁ l items := (hl.push _).extBut hs₁.extBut hlt
  rw [Nat.zero_add] at hit₁
  obtain ⟨oi, hoi, _⟩ := id hit₁
  obtain ⟨ol, hol, _⟩ := id hl₁
  rw [List.drop_zero]
  have hfl : (items.toList.take 1).length = 1 := by rw [List.length_take, Array.length_toList]; omega
  rw [if_neg (show ¬ ((items.toList.take 1).length < 1) by rw [hfl]; omega)]
  refine wpAny_bind (wpAny_holding (kun_collect (s := { s with heap := h₁ }) (T := "tuple_iterator") (.inr (.inr (.inr rfl))) (Walks.tuple (A := A.in1) hh s.heap.objs.size l hlt items) (fun j u st => st.1.typeIs) (k := 1) (by omega) ⟨hit₁, hl₁⟩ (Heap.lt_size hoi) (Heap.lt_size hol) (fun h₂ tk hk => ?_) (by rw [sizeLine_eq]; omega)))
  show wpAny _ _ (if (items.toList.drop 1).length < 2 - 1 - 1 then _ else _) _ _ _
  rw [if_neg (by omega)]
  show wpAny _ _ (newList ((items.toList.drop 1).take ((items.toList.drop 1).length - 0)) >>= fun d => pure (items.toList.take 1 ++ [d] ++ (items.toList.drop 1).drop ((items.toList.drop 1).length - 0))) _ _ _
  rw [Nat.sub_zero, List.take_length, List.drop_length, ]
  have he : Heap.ExtBut s.heap.objs.size s.heap h₂ := fun b o hb e => hk b o hb (hs₁.extBut b o hb (Heap.get?_push_of_some _ e))
  have hh2 := h h₂ tk he
  have e : (fun d => (pure (items.toList.take 1 ++ [d] ++ []) : Sem (List Value))) = fun d => pure (items.toList.take 1 ++ [d]) := by funext d; rw [List.append_nil]
  rw [e]
  exact hh2
  ) only [↓qt_eq])
theorem star_L {l : Addr} {items : Array Value} {Q : List Value → Shared → Prop} (hh : A.handled = none) (hl : s.heap.IsList l items) (h0 : 1 ≤ items.size) (hz : items.size ≤ 16384)
    (h : ∀ h' tk, Heap.ExtBut s.heap.objs.size s.heap h' → wpAny (model prog w) A (newList (items.toList.drop 1) >>= fun d => pure (items.toList.take 1 ++ [d])) Q E { s with heap := h', toks := tk }) : wpAny (model prog w) A (unpackItems (.ref l) 2 (some 1)) Q E s := qt_of (by simp (disch := with_unfolding_all
  have hlt : l ≠ s.heap.objs.size := by obtain ⟨o, ho, _⟩ := hl; exact Nat.ne_of_lt (Heap.lt_size ho)
  unfold unpackItems
  refine wpAny_bind ?_
  unfold notIterableAtAll
  refine wpAny_bind (wpAny_specialOf hl.typeIs slot_list_iter.lookup ?_)
  refine wpAny_pure ?_
  simp only [Bool.false_eq_true, if_false]
  refine wpAny_bind (wpAny_holding (wpAny_pyIter_list hl ?_))
  refine wpAny_bind (wpAny_holding (kun_draw hlt 1 0 _ _ ⟨_, Heap.get?_push_size _ rfl, rfl, rfl⟩ (hl.push _) (by omega) fun h₁ hit₁ hs₁ => ?_))
  have hl₁ : h₁.IsList l items := (hl.push _).extBut hs₁.extBut hlt
  rw [Nat.zero_add] at hit₁
  obtain ⟨oi, hoi, _⟩ := id hit₁
  obtain ⟨ol, hol, _⟩ := id hl₁
  rw [List.drop_zero]
  have hfl : (items.toList.take 1).length = 1 := by rw [List.length_take, Array.length_toList]; omega
  rw [if_neg (show ¬ ((items.toList.take 1).length < 1) by rw [hfl]; omega)]
  refine wpAny_bind (wpAny_holding (kun_collect (s := { s with heap := h₁ }) (T := "list_iterator") (.inr (.inr (.inl rfl))) (Walks.list (A := A.in1) hh s.heap.objs.size l hlt items) (fun j u st => st.1.typeIs) (k := 1) (by omega) ⟨hit₁, hl₁⟩ (Heap.lt_size hoi) (Heap.lt_size hol) (fun h₂ tk hk => ?_) (by rw [sizeLine_eq]; omega)))
  show wpAny _ _ (if (items.toList.drop 1).length < 2 - 1 - 1 then _ else _) _ _ _
  rw [if_neg (by omega)]
  show wpAny _ _ (newList ((items.toList.drop 1).take ((items.toList.drop 1).length - 0)) >>= fun d => pure (items.toList.take 1 ++ [d] ++ (items.toList.drop 1).drop ((items.toList.drop 1).length - 0))) _ _ _
  rw [Nat.sub_zero, List.take_length, List.drop_length, ]
  have he : Heap.ExtBut s.heap.objs.size s.heap h₂ := fun b o hb e => hk b o hb (hs₁.extBut b o hb (Heap.get?_push_of_some _ e))
  have hh2 := h h₂ tk he
  have e : (fun d => (pure (items.toList.take 1 ++ [d] ++ []) : Sem (List Value))) = fun d => pure (items.toList.take 1 ++ [d]) := by funext d; rw [List.append_nil]
  rw [e]
  exact hh2
  ) only [↓qt_eq])
theorem star_K {k : Kd} {l : Addr} {items : Array Value} {Q : List Value → Shared → Prop} (hh : A.handled = none) (hl : SqK k s.heap l items) (h0 : 1 ≤ items.size) (hz : items.size ≤ 16384)
    (h : ∀ h' tk, Heap.ExtBut s.heap.objs.size s.heap h' → wpAny (model prog w) A (newList (items.toList.drop 1) >>= fun d => pure (items.toList.take 1 ++ [d])) Q E { s with heap := h', toks := tk }) : wpAny (model prog w) A (unpackItems (.ref l) 2 (some 1)) Q E s := by
  cases k with
  | L => exact star_L hh hl h0 hz h
  | T => exact star_T hh hl h0 hz h
end
theorem pg_starE {X : Cx} {a b : Expr} {p pos : Pos} {k : Nat} {t : TGs} (hc : X.calm = true) (h : PGs X [a, b] t)
    (hn : (assignEach [a, .Starred b p] X.env).length = 2 := by rfl) (hst : (assignEach [a, .Starred b p] X.env).findIdx? (·.1) = some 1 := by rfl)
    (hm : (assignEach [a, .Starred b p] X.env).map (·.2) = (assignEach [a, b] X.env).map (·.2) := by rfl) : PG X (.Tuple [a, .Starred b p] k pos) (gStarE X.K t) := by
  refine ⟨fun pins s σ H v u Q I r hw => ?_⟩
  obtain ⟨kd, q, x, ys, e1, hq, hl, hw⟩ := hw
  subst e1
  cases r
  obtain ⟨its, rv, ht, hz⟩ := hq.inv I
  cases rv with
  | @cons _ w _ us rw' ru =>
    have hus : us.length = ys.length := ru.length.symm
    rw [assign_Tuple]
    refine wpAny_bind (wpAny_standAt ?_)
    unfold unpack
    rw [hn, hst, hm]
    refine wpAny_bind (wpAny_holding (star_K (I.ok.hd hc) ht (by simp) (by simp; omega) fun h' tk he => ?_))
    have e1 : (w :: us).toArray.toList.drop 1 = us := by simp
    have e2 : (w :: us).toArray.toList.take 1 = [w] := by simp
    rw [e1, e2]
    have I1 : Inv X pins σ H { s with heap := h', toks := tk } := I.kept (t' := tk) fun b o e => he b o (Nat.ne_of_lt (Heap.lt_size e)) e
    refine wpAny_bind (wpAny_newList ?_ (by rw [sizeLine_eq]; omega))
    refine wpAny_pure ?_
    have I2 := I1.lnew (t' := tk) ru (Nat.le_trans hl (by decide))
    exact h.run pins _ σ _ [x, .ref _] _ Q I2 (.cons rw' (.cons rfl .nil)) (hw _ I1.fresh)
/-! ### a call with keywords that may raise -/
section
variable {X : Cx} {CX : CXT} {k n : Nat} {f : Addr} {fd : FuncData} {ps ks : List Str} {sp : Sp} {E : St → XK} {x : Str} {p pos : Pos} {e : Expr} {es : List Expr} {kws : List Keyword} {t tk : TA} {g : List Value → List Value → List Value} {gV : List V → List V → List V}
end
end U

end
section
namespace U
open PySem PyProof.Rows L2 Evl
/-- list.extend by a list that is only read -/
theorem ext_wide (l b : Addr) (xs ys : Array Value) (n m : Nat) (dd : Option Addr) (sl : Array (Option Value)) (long : ¬ (!xs.isEmpty && Builtin.List.listTooLong (xs.size + ys.size)) = true) (z1 : xs.size ≤ sizeLine) (z2 : xs.size + ys.size ≤ sizeLine + 1) :
    Meets (Builtin.«list.extend» ⟨[.ref l, .ref b], []⟩) (fun _ R s => s.heap.get? l = some ⟨.type "list", none, .seq xs n, #[]⟩ ∧ s.heap.get? b = some ⟨.type "list", dd, .seq ys m, sl⟩ ∧ R (.ok (.ret Value.none)) { s with heap := s.heap.update l (Obj.mapSeq fun x => x ++ ys), toks := s.toks }) :=
  .of_wp fun prog w A R s k => by
    obtain ⟨hp, g, d, tk, os⟩ := s
    obtain ⟨at1, at2, k⟩ := k
    have i1 := AutoSeq1.idx_int
    have i2 := AutoSeq1.sub_tuple_tuple
    have i3 := AutoSeq1.sub_list_list
    have i4 := AutoSeq1.sub_tuple_list
    have i5 := AutoSeq1.sub_list_tuple
    have z3 : (xs ++ ys).size ≤ sizeLine + 1 := by rw [Array.size_append]; exact z2
    wp_walk using (wpAny_updateSeq at1 rfl (hz := z1) (_hz' := z3)), wpAny_loadPart' at1, wpAny_loadPart' at2
    exact ⟨_, rfl, k⟩
theorem ext_wideT (l b : Addr) (xs ys : Array Value) (n m : Nat) (dd : Option Addr) (sl : Array (Option Value)) (long : ¬ (!xs.isEmpty && Builtin.List.listTooLong (xs.size + ys.size)) = true) (z1 : xs.size ≤ sizeLine) (z2 : xs.size + ys.size ≤ sizeLine + 1) :
    Meets (Builtin.«list.extend» ⟨[.ref l, .ref b], []⟩) (fun _ R s => s.heap.get? l = some ⟨.type "list", none, .seq xs n, #[]⟩ ∧ s.heap.get? b = some ⟨.type "tuple", dd, .seq ys m, sl⟩ ∧ R (.ok (.ret Value.none)) { s with heap := s.heap.update l (Obj.mapSeq fun x => x ++ ys), toks := s.toks }) :=
  .of_wp fun prog w A R s k => by
    obtain ⟨hp, g, d, tk, os⟩ := s
    obtain ⟨at1, at2, k⟩ := k
    have i1 := AutoSeq1.idx_int
    have i2 := AutoSeq1.sub_tuple_tuple
    have i3 := AutoSeq1.sub_list_list
    have i4 := AutoSeq1.sub_tuple_list
    have i5 := AutoSeq1.sub_list_tuple
    have z3 : (xs ++ ys).size ≤ sizeLine + 1 := by rw [Array.size_append]; exact z2
    wp_walk using (wpAny_updateSeq at1 rfl (hz := z1) (_hz' := z3)), wpAny_loadPart' at1, wpAny_loadPart' at2
    exact ⟨_, rfl, k⟩
noncomputable def rExtQ (K : Fg) : V → List V → Hp → VK → Prop := fun x vs H Q => ∃ l b xs zs, x = .ref l ∧ vs = [.ref b] ∧ H l = some (.lst xs) ∧ (SqL K H b zs ∨ SqT K H b zs) ∧ xs.length + zs.length ≤ sizeLine ∧ Q .non (upd H l (.lst (xs ++ zs)))
section
variable {X : Cx}
theorem mt_extQ : MtM X "list.extend" (rExtQ X.K) := by
  intro pins s σ H x vs v us Q I rx rv h
  obtain ⟨l, b, xs, zs, rfl, rfl, own, rd, size, q⟩ := h
  cases rx
  obtain ⟨u, rfl, ru⟩ := rv.one
  cases ru
  obtain ⟨z, its, n, r, hl, e⟩ := I.lstM own
  have hlen := r.length
  rcases rd with rd | rd
  · obtain ⟨its2, r2, pl2, _⟩ := I.list rd
    have q2 := r2.length
    obtain ⟨⟨c2, d2, a2, s2⟩, n2, o2, hc2, _, hd2⟩ := pl2
    simp only at hc2 hd2
    subst hc2 hd2
    have long : ¬ (!its.toArray.isEmpty && Builtin.List.listTooLong (its.toArray.size + its2.toArray.size)) = true := by
      rw [notLongL (by rw [List.size_toArray, List.size_toArray]; omega), Bool.and_false]
      exact Bool.false_ne_true
    refine call_meets F.slot_list_extend ⟨_, e, rfl⟩ F.entry_list_extend (F.args_list_extend_2 _ _) (ext_wide l b its.toArray its2.toArray n n2 d2 s2 long (by rw [List.size_toArray]; omega) (by rw [List.size_toArray, List.size_toArray]; omega)) ⟨e, o2, ?_⟩
    refine ⟨.non, _, I.lset (its' := its ++ its2) own e (by simp) (r.append r2) (by rw [List.length_append]; omega), rfl, q⟩
  · obtain ⟨its2, r2, pl2, _⟩ := I.tuple rd
    have q2 := r2.length
    obtain ⟨⟨c2, d2, a2, s2⟩, o2, hc2, n2, hd2⟩ := pl2
    simp only at hc2 hd2
    subst hc2 hd2
    have long : ¬ (!its.toArray.isEmpty && Builtin.List.listTooLong (its.toArray.size + its2.toArray.size)) = true := by
      rw [notLongL (by rw [List.size_toArray, List.size_toArray]; omega), Bool.and_false]
      exact Bool.false_ne_true
    refine call_meets F.slot_list_extend ⟨_, e, rfl⟩ F.entry_list_extend (F.args_list_extend_2 _ _) (ext_wideT l b its.toArray its2.toArray n n2 d2 s2 long (by rw [List.size_toArray]; omega) (by rw [List.size_toArray, List.size_toArray]; omega)) ⟨e, o2, ?_⟩
    refine ⟨.non, _, I.lset (its' := its ++ its2) own e (by simp) (r.append r2) (by rw [List.length_append]; omega), rfl, q⟩
end
end U

end
section
namespace U
open PySem PyProof.Rows L2 Evl
/-- a list is made longer in its place -/
theorem inc_wide (l b : Addr) (xs ys : Array Value) (n m : Nat) (dd : Option Addr) (sl : Array (Option Value)) (long : ¬ (!xs.isEmpty && Builtin.List.listTooLong (xs.size + ys.size)) = true) (z1 : xs.size ≤ sizeLine) (z2 : xs.size + ys.size ≤ sizeLine + 1) :
    Meets (Builtin.«list.__iadd__» ⟨[.ref l, .ref b], []⟩) (fun _ R s => s.heap.get? l = some ⟨.type "list", none, .seq xs n, #[]⟩ ∧ s.heap.get? b = some ⟨.type "list", dd, .seq ys m, sl⟩ ∧ R (.ok (.ret (Value.ref l))) { s with heap := s.heap.update l (Obj.mapSeq fun x => x ++ ys), toks := s.toks }) :=
  .of_wp fun prog w A R s k => by
    obtain ⟨hp, g, d, tk, os⟩ := s
    obtain ⟨at1, at2, k⟩ := k
    have i1 := AutoSeq1.idx_int
    have i2 := AutoSeq1.sub_tuple_tuple
    have i3 := AutoSeq1.sub_list_list
    have i4 := AutoSeq1.sub_tuple_list
    have i5 := AutoSeq1.sub_list_tuple
    have z3 : (xs ++ ys).size ≤ sizeLine + 1 := by rw [Array.size_append]; exact z2
    wp_walk using (wpAny_updateSeq at1 rfl (hz := z1) (_hz' := z3)), wpAny_loadPart' at1, wpAny_loadPart' at2
    exact ⟨_, rfl, k⟩
noncomputable def rIcat (K : Fg) : TIp := fun x y H Q => ∃ l b xs zs, x = .ref l ∧ y = .ref b ∧ H l = some (.lst xs) ∧ SqL K H b zs ∧ xs.length + zs.length ≤ sizeLine ∧ Q (.ref l) (upd H l (.lst (xs ++ zs)))
section
variable {X : Cx}
theorem noInc_list : fillsInplaceSlot (.type "list") "add" (Operator.Add == .Add) = pure false := qt_of (by simp (disch := with_unfolding_all
  have e := PySem.F.slot_list_iadd.lookup
  have sq : isSeqSlot (some (.builtin "list.__iadd__")) = true := by decide +kernel
  unfold fillsInplaceSlot
  show Bind.bind (typeLookup (.type "list") (dunderI "add")) _ = _
  rw [e]
  rw [pure_bind, sq]
  rfl
  ) only [↓qt_eq])
theorem seqInc_list : seqSlot? (.type "list") (dunderI "add") = pure (some (.builtin "list.__iadd__")) := PySem.seqSlot_of PySem.F.slot_list_iadd.lookup (by decide +kernel)
theorem ip_catL : PIp X .Add (rIcat X.K) := by
  intro pins s σ H x y v u Q I r1 r2 h
  obtain ⟨l, b, xs, zs, rfl, rfl, own, rd, size, q⟩ := h
  cases r1
  cases r2
  obtain ⟨z, its, n, r, hl, e⟩ := I.lstM own
  obtain ⟨its2, r2, pl2, _⟩ := I.list rd
  have q2 := r2.length
  obtain ⟨⟨c2, d2, a2, s2⟩, n2, o2, hc2, _, hd2⟩ := pl2
  simp only at hc2 hd2
  subst hc2 hd2
  have long : ¬ (!its.toArray.isEmpty && Builtin.List.listTooLong (its.toArray.size + its2.toArray.size)) = true := by
    rw [notLongL (by rw [List.size_toArray, List.size_toArray]; omega), Bool.and_false]
    exact Bool.false_ne_true
  have hc : wpAny (model X.prog X.w) X.A (call (.builtin "list.__iadd__") [.ref l, .ref b]) (EP X pins σ Q) X.xe s := by
    refine call_meets PySem.F.slot_list_iadd ⟨_, e, rfl⟩ PySem.F.entry_list_iadd (PySem.F.args_list_iadd_2 _ _) (inc_wide l b its.toArray its2.toArray n n2 d2 s2 long (by rw [List.size_toArray]; omega) (by rw [List.size_toArray, List.size_toArray]; omega)) ⟨e, o2, ?_⟩
    exact ⟨.ref l, _, I.lset (its' := its ++ its2) own e (by simp) (r.append r2) (by rw [List.length_append]; omega), rfl, q⟩
  have ta : s.TypeIs (.ref l) "list" := ⟨_, e, rfl⟩
  have tb : s.TypeIs (.ref b) "list" := ⟨_, o2, rfl⟩
  unfold inplaceOp
  refine wpAny_holding (wpAny_bind (wpAny_typeOf ta (wpAny_bind (wpAny_of_eq noInc_list ?_))))
  simp only [Bool.false_eq_true, if_false]
  refine wpAny_bind (wpAny_binaryOp1_none (nm := "add") ta tb noFill_list_add ?_)
  exact wpAny_bind (wpAny_of_eq seqInc_list (wpAny_bind (wpAny_rule hc)))
end
end U

end
section
namespace U
open PySem PyProof.Rows L2 Evl
section
variable {X : Cx} {pos : Pos}
end
end U

end
section
/-! A lambda with parameters, handed to a def as its last argument: g(e, lambda y: body), what it captures stays while g runs. -/
namespace U
open PySem PySem.Spec PyProof.Rows L2 Evl LamX
section
variable {X : Cx} {pins : List (Addr × Obj)} {σ : L2.St} {H : Hp} {s : Shared}
end
/-! ### the body's names -/
section
variable {X : Cx} {pins : List (Addr × Obj)} {σ : L2.St} {H HZ : Hp} {s s1 : Shared} {ps : List Str} {sc : Scope}
end
section
variable {X : Cx} {pins : List (Addr × Obj)} {σ : L2.St} {H : Hp} {s : Shared} {ps : List Str} {sc : Scope}
end
section
variable {X : Cx}
end
end U

end
section
/-! The second data layer: what is wanted of a reading, and what suffices for it. Slots hold data, things of one's own, or the bag. -/
namespace U.N
open PySem L2 Evl
/-- what a frame may change beside its own: the bag, and tables of code objects (each with the name that these bear) -/
structure Bt where
  bag : Option (Addr × Addr)
  T : List (Addr × Str)
noncomputable abbrev noB : Bt := ⟨none, []⟩
noncomputable abbrev bgB (b c : Addr) : Bt := ⟨some (b, c), []⟩
noncomputable def InB (B : Bt) (a : Addr) : Prop := U.InB B.bag a ∨ ∃ p ∈ B.T, a = p.1
/-- all but that stays -/
noncomputable def Xb (B : Bt) (H H2 : Hp) : Prop := ∀ a o, H a = some o → ¬ InB B a → H2 a = some o
theorem Xb.refl {B : Bt} {H : Hp} : Xb B H H := fun _ _ h _ => h
theorem Xb.trans {B : Bt} {H H1 H2 : Hp} (a : Xb B H H1) (b : Xb B H1 H2) : Xb B H H2 := fun p o h n => b p o (a p o h n) n
theorem Xb.of {B : Bt} {H H2 : Hp} (e : Ex H H2) : Xb B H H2 := fun p o h _ => e p o h
/-- a thing of one's own: what it holds, and how it stands in the heap -/
structure Own where
  flat : List PyData
  obj : Addr → List V → HO
/-- a list of one's own -/
noncomputable def ol (xs : List PyData) : Own := ⟨xs, fun _ vs => .lst vs⟩
inductive En where
  | un
  | d (x : PyData)
  | ow (c : Own)
  | bag
  /-- a caught exception: itself, its dict, its fields -/
  | xc (a d : Addr) (fs : List (Str × V))
  /-- a thing that stays as it is -/
  | fz (c : Own)
  /-- any value, known as it is -/
  | vl (v : V)
  /-- a lambda, its code object and that one's name; what it captured -/
  | fn (f d : Addr) (q : Str) (us : List V) (ds : List PyData)
  /-- a mark: these tables may grow -/
  | tb (T : List (Addr × Str))
  /-- a value of which something is known, and stays so -/
  | rv (ρ : V → Hp → Prop)
noncomputable abbrev Gam := List En
noncomputable def Zs (W : Addr → Prop) (B : Bt) (ad : Nat → Addr) (G : Gam) : Addr → Prop := fun a => W a ∨ (∃ i c, G[i]? = some (.ow c) ∧ a = ad i) ∨ InB B a
noncomputable def Slot (K : Fg) (B : Bt) (ad : Nat → Addr) (H : Hp) (Z : Addr → Prop) (i : Nat) (o : Option V) : En → Prop
  | .un => True
  | .d x => ∃ v, o = some v ∧ Dp K (less H Z) v x
  | .ow c => o = some (.ref (ad i)) ∧ ∃ vs, H (ad i) = some (c.obj (ad i) vs) ∧ DpAll K (less H Z) vs c.flat
  | .bag => ∃ b c, B.bag = some (b, c) ∧ o = some (.ref b)
  | .xc a d fs => o = some (.ref a) ∧ less H Z d = some (.xd fs)
  | .fz c => ∃ a vs, o = some (.ref a) ∧ less H Z a = some (c.obj a vs) ∧ DpAll K (less H Z) vs c.flat
  | .vl v => o = some v
  | .fn f d q us ds => o = some (.ref f) ∧ less H Z d = some (LamX.CodeO d q) ∧ DpAll K (less H Z) us ds
  | .tb T => B.T = T
  | .rv ρ => ∃ v, o = some v ∧ ∀ M, Ex (less H Z) M → ρ v M
noncomputable def BagOk (H : Hp) (B : Bt) : Prop := (∃ s : Bag, s.ok ∧ BagAt H B.bag s) ∧ ∀ p ∈ B.T, ∃ o, H p.1 = some o
theorem BagOk.xb {H H2 : Hp} {B : Bt} (h : BagOk H B) (e : ∀ a, InB B a → H2 a = H a) : BagOk H2 B := qt_of (by simp (disch := with_unfolding_all
  obtain ⟨⟨s, ok, h⟩, t⟩ := h
  refine ⟨⟨s, ok, ?_⟩, fun p hp => by rw [e _ (.inr ⟨p, hp, rfl⟩)]; exact t p hp⟩
  obtain ⟨bg, T⟩ := B
  rcases bg with _ | ⟨b, c⟩
  · trivial
  · have h : H b = _ ∧ _ := h
    exact ⟨(e b (.inl ⟨b, c, rfl, .inl rfl⟩)).trans h.1, (e c (.inl ⟨b, c, rfl, .inr rfl⟩)).trans h.2.1, h.2.2⟩
  ) only [↓qt_eq])
theorem BagOk.there {H : Hp} {B : Bt} (h : BagOk H B) {a : Addr} (z : InB B a) : ∃ o, H a = some o := by
  obtain ⟨⟨s, ok, h⟩, t⟩ := h
  rcases z with z | ⟨p, hp, rfl⟩
  · exact bag_there h z
  · exact t p hp
theorem BagOk.ext {H H2 : Hp} {B : Bt} (h : BagOk H B) (e : Ex H H2) : BagOk H2 B := h.xb fun a z => by
  obtain ⟨o, q⟩ := h.there z
  rw [q, e _ _ q]
theorem BagOk.upd {H : Hp} {B : Bt} (h : BagOk H B) {p : Addr} {o : HO} (n : ¬ InB B p) : BagOk (upd H p o) B := h.xb fun a z => upd_ne fun e => n (e ▸ z)
/-- a table of code objects: those that it tells bear the name -/
noncomputable def TabZ (H : Hp) (Z : Addr → Prop) (p : Addr × Str) : Prop := ∃ ps : Array Value, H p.1 = some (.tbl ps) ∧ TriplesOk ps.toList ∧ ∀ (l : Pos) (cv : Value), codeAmong l ps.toList = some cv → ∃ c, cv = .ref c ∧ less H Z c = some (LamX.CodeO c p.2)
theorem TabZ.mono {H H2 : Hp} {Z Z' : Addr → Prop} {p : Addr × Str} (h : TabZ H Z p) (x : Ex (less H Z) (less H2 Z')) (y : H2 p.1 = H p.1) : TabZ H2 Z' p := by
  obtain ⟨ps, h1, h2, h3⟩ := h
  exact ⟨ps, y.trans h1, h2, fun l cv hc => by
    obtain ⟨c, e, g⟩ := h3 l cv hc
    exact ⟨c, e, x _ _ g⟩⟩
theorem TabZ.there {H : Hp} {Z : Addr → Prop} {p : Addr × Str} (h : TabZ H Z p) : ∃ o, H p.1 = some o := let ⟨_, h1, _⟩ := h; ⟨_, h1⟩
/-- the state of a def's frame: slots, heap, bag, against the heap H0 at its entry -/
structure Sta (K : Fg) (W : Addr → Prop) (B : Bt) (ad : Nat → Addr) (H0 H : Hp) (σ : St) (G : Gam) : Prop where
  len : σ.length = G.length
  at_ : ∀ i e, G[i]? = some e → ∃ o, σ[i]? = some o ∧ Slot K B ad H (Zs W B ad G) i o e
  inj : ∀ i j c c', G[i]? = some (.ow c) → G[j]? = some (.ow c') → ad i = ad j → i = j
  sep : ∀ i c, G[i]? = some (.ow c) → H0 (ad i) = none ∧ ¬ InB B (ad i) ∧ ¬ W (ad i)
  base : ∀ a o, H0 a = some o → ¬ InB B a → H a = some o
  bag : BagOk H B
  wd : ∀ a, W a → ∃ o, H a = some o
  tab : ∀ p ∈ B.T, TabZ H (Zs W B ad G) p
section
variable {K : Fg} {W : Addr → Prop} {B : Bt} {ad : Nat → Addr} {H0 H H2 : Hp} {σ : St} {G G' : Gam}
theorem Slot.mono {Z Z' : Addr → Prop} {i : Nat} {o : Option V} {e : En} (h : Slot K B ad H Z i o e) (x : Ex (less H Z) (less H2 Z')) (y : ∀ c u, e = .ow c → H (ad i) = some u → H2 (ad i) = some u) : Slot K B ad H2 Z' i o e := qt_of (by simp (disch := with_unfolding_all
  cases e with
  | un => trivial
  | d d => obtain ⟨v, e, h⟩ := h; exact ⟨v, e, dp_mono x h⟩
  | ow c => obtain ⟨e, vs, h1, h2⟩ := h; exact ⟨e, vs, y c _ rfl h1, dpa_mono x h2⟩
  | bag => exact h
  | xc a d fs => exact ⟨h.1, x _ _ h.2⟩
  | fz c => obtain ⟨a, vs, e, h1, h2⟩ := h; exact ⟨a, vs, e, x _ _ h1, dpa_mono x h2⟩
  | vl v => exact h
  | fn f d q us ds => exact ⟨h.1, x _ _ h.2.1, dpa_mono x h.2.2⟩
  | tb T => exact h
  | rv ρ => obtain ⟨v, e, h⟩ := h; exact ⟨v, e, fun M m => h M fun a o q => m a o (x a o q)⟩
  ) only [↓qt_eq])
theorem InB.tab {p : Addr × Str} (hp : p ∈ B.T) : InB B p.1 := .inr ⟨p, hp, rfl⟩
theorem Sta.there (S : Sta K W B ad H0 H σ G) (a : Addr) (z : Zs W B ad G a) : ∃ o, H a = some o := by
  rcases z with z | ⟨i, c, g, rfl⟩ | z
  · exact S.wd _ z
  · obtain ⟨_, _, _, vs, h1, _⟩ := S.at_ i _ g
    exact ⟨_, h1⟩
  · exact S.bag.there z
/-- everything stays -/
theorem Sta.ext (S : Sta K W B ad H0 H σ G) (e : Ex H H2) : Sta K W B ad H0 H2 σ G where
  len := S.len
  at_ := fun i en h => by
    obtain ⟨o, h1, h2⟩ := S.at_ i en h
    exact ⟨o, h1, h2.mono (less_mono e) fun _ _ _ q => e _ _ q⟩
  inj := S.inj
  sep := S.sep
  base := fun a o h n => e _ _ (S.base a o h n)
  bag := S.bag.ext e
  wd := fun a z => by
    obtain ⟨o, h⟩ := S.wd a z
    exact ⟨o, e _ _ h⟩
  tab := fun p hp => (S.tab p hp).mono (less_mono e) (by
    obtain ⟨ps, h, _⟩ := S.tab p hp
    rw [h]; exact e _ _ h)
/-- all but the bag stays -/
theorem Sta.drawn (S : Sta K W B ad H0 H σ G) (e : Xb B H H2) (b : BagOk H2 B) (t : ∀ p ∈ B.T, TabZ H2 (Zs W B ad G) p) : Sta K W B ad H0 H2 σ G where
  len := S.len
  at_ := fun i en h => by
    obtain ⟨o, h1, h2⟩ := S.at_ i en h
    refine ⟨o, h1, h2.mono (less_but fun a o q z => e a o q fun y => z (.inr (.inr y))) fun c vs q q2 => ?_⟩
    subst q
    exact e _ _ q2 (S.sep i c h).2.1
  inj := S.inj
  sep := S.sep
  base := fun a o h n => e a o (S.base a o h n) n
  bag := b
  wd := fun a z => by
    by_cases hb : InB B a
    · exact b.there hb
    · obtain ⟨o, h⟩ := S.wd a z
      exact ⟨o, e _ _ h hb⟩
  tab := t
theorem Xb.lz {H H2 : Hp} (a : Xb B H H2) : Ex (less H (Zs W B ad G)) (less H2 (Zs W B ad G)) := less_but fun p o h n => a p o h fun z => n (.inr (.inr z))
/-- a bag's call leaves the tables -/
theorem Sta.tabB {b c : Addr} (S : Sta K W B ad H0 H σ G) (hb : B.bag = some (b, c)) (e : Xb (bgB b c) H H2) (k : BagOk H2 (bgB b c)) : Xb B H H2 ∧ BagOk H2 B ∧ ∀ p ∈ B.T, TabZ H2 (Zs W B ad G) p := qt_of (by simp (disch := with_unfolding_all
  have x : Xb B H H2 := fun a o h n => e a o h fun z => n (by
    rcases z with z | ⟨p, hp, _⟩
    · exact .inl (by rw [hb]; exact z)
    · cases hp)
  have st : ∀ p ∈ B.T, H2 p.1 = H p.1 := fun p hp => by
    obtain ⟨ps, h, _⟩ := S.tab p hp
    rw [h]
    refine e _ _ h fun z => ?_
    rcases z with ⟨b', c', z, y⟩ | ⟨p, hp, _⟩
    · cases z
      obtain ⟨⟨s, _, k⟩, _⟩ := S.bag
      rw [hb] at k
      rcases y with y | y
      · rw [y, k.1] at h; cases h
      · rw [y, k.2.1] at h; cases h
    · cases hp
  refine ⟨x, ⟨by rw [hb]; exact k.1, fun p hp => ?_⟩, fun p hp => (S.tab p hp).mono (less_but fun a o q z => x a o q fun y => z (.inr (.inr y))) (st p hp)⟩
  rw [st p hp]
  exact (S.tab p hp).there
  ) only [↓qt_eq])
/-- .. and so does a call that keeps all, its answer at a new place -/
theorem Sta.tabN {a : Addr} (S : Sta K W B ad H0 H σ G) (hn : H a = none) : ∀ p ∈ B.T, TabZ H (fun b => Zs W B ad G b ∨ b = a) p := fun p hp =>
  (S.tab p hp).mono (fun c o q => by
    obtain ⟨q1, q2⟩ := less_some q
    exact less_of (fun z => z.elim q1 fun z => by rw [z, hn] at q2; cases q2) q2) rfl
theorem TabZ.ex {H H2 : Hp} {Z : Addr → Prop} {p : Addr × Str} (h : TabZ H Z p) (e : Ex H H2) : TabZ H2 Z p := h.mono (less_mono e) (by
  obtain ⟨ps, h, _⟩ := h
  rw [h]; exact e _ _ h)
theorem Zs.set_of {i : Nat} {e : En} (he : ∀ c, e ≠ .ow c) {a : Addr} (h : Zs W B ad (G.set i e) a) : Zs W B ad G a := by
  rcases h with h | ⟨j, c, h, r⟩ | h
  · exact .inl h
  · rcases get_set h with ⟨rfl, _, e'⟩ | ⟨_, h⟩
    · exact absurd e' (he c)
    · exact .inr (.inl ⟨j, c, h, r⟩)
  · exact .inr (.inr h)
/-- a slot gets a thing that is not of one's own -/
theorem Sta.set (S : Sta K W B ad H0 H σ G) {i : Nat} {e : En} {o : Option V} (he : ∀ c, e ≠ .ow c) (h : Slot K B ad H (Zs W B ad G) i o e) : Sta K W B ad H0 H (σ.set i o) (G.set i e) where
  len := by rw [List.length_set, List.length_set]; exact S.len
  at_ := fun j en g => by
    rcases get_set g with ⟨rfl, l, rfl⟩ | ⟨z, g⟩
    · refine ⟨o, List.getElem?_set_self (by rw [S.len]; exact l), h.mono (less_sub fun a q => Zs.set_of he q) fun _ _ _ q => q⟩
    · obtain ⟨o', h1, h2⟩ := S.at_ j en g
      exact ⟨o', by rw [List.getElem?_set_ne z]; exact h1, h2.mono (less_sub fun a q => Zs.set_of he q) fun _ _ _ q => q⟩
  inj := fun j k c c' g g' q => by
    rcases get_set g with ⟨rfl, l, e⟩ | ⟨z, g⟩
    · exact absurd e (he c)
    · rcases get_set g' with ⟨rfl, l, e⟩ | ⟨z', g'⟩
      · exact absurd e (he c')
      · exact S.inj j k c c' g g' q
  sep := fun j c g => by
    rcases get_set g with ⟨rfl, l, e⟩ | ⟨z, g⟩
    · exact absurd e (he c)
    · exact S.sep j c g
  base := S.base
  bag := S.bag
  wd := S.wd
  tab := fun p hp => (S.tab p hp).mono (less_sub fun a q => Zs.set_of he q) rfl
theorem Sta.setD (S : Sta K W B ad H0 H σ G) {i : Nat} {v : V} {x : PyData} (h : Dp K (less H (Zs W B ad G)) v x) : Sta K W B ad H0 H (σ.set i (some v)) (G.set i (.d x)) :=
  S.set (fun _ z => by cases z) ⟨v, rfl, h⟩
theorem Sta.setU (S : Sta K W B ad H0 H σ G) {i : Nat} {o : Option V} : Sta K W B ad H0 H (σ.set i o) (G.set i .un) :=
  S.set (fun _ z => by cases z) trivial
theorem Sta.fresh (S : Sta K W B ad H0 H σ G) {p : Addr} (h : H p = none) : H0 p = none ∧ ¬ InB B p ∧ ¬ Zs W B ad G p := qt_of (by simp (disch := with_unfolding_all
  have hZ : ¬ Zs W B ad G p := fun z => by
    obtain ⟨o, q⟩ := S.there p z
    rw [h] at q; cases q
  have hB : ¬ InB B p := fun z => hZ (.inr (.inr z))
  refine ⟨?_, hB, hZ⟩
  cases e : H0 p with
  | none => rfl
  | some o => rw [S.base p o e hB] at h; cases h
  ) only [↓qt_eq])
theorem own_ex {i : Nat} {p : Addr} {u : HO} {c : Own} (hp : H p = none) : Ex (less H (Zs W B ad G)) (less (upd H p u) (Zs W B (swp ad i p) (G.set i (.ow c)))) := fun a o q => by
  obtain ⟨q1, q2⟩ := less_some q
  have na : a ≠ p := ne_of_none q2 hp
  refine less_of (fun z => ?_) (by rw [upd_ne na]; exact q2)
  rcases z with z | ⟨j, c, g, r⟩ | z
  · exact q1 (.inl z)
  · rcases get_set g with ⟨rfl, l, e⟩ | ⟨z, g⟩
    · rw [swp_same] at r; exact na r
    · rw [swp_ne z] at r
      exact q1 (.inr (.inl ⟨j, c, g, r⟩))
  · exact q1 (.inr (.inr z))
/-- a new thing of one's own -/
theorem Sta.setOwn (S : Sta K W B ad H0 H σ G) {i : Nat} {p : Addr} {vs : List V} {c : Own} (hp : H p = none) (h : DpAll K (less H (Zs W B ad G)) vs c.flat) :
    Sta K W B (swp ad i p) H0 (upd H p (c.obj p vs)) (σ.set i (some (.ref p))) (G.set i (.ow c)) := qt_of (by simp (disch := with_unfolding_all
  obtain ⟨h0, hB, hZ⟩ := S.fresh hp
  have ex : Ex (less H (Zs W B ad G)) (less (upd H p (c.obj p vs)) (Zs W B (swp ad i p) (G.set i (.ow c)))) := own_ex hp
  have hne : ∀ j c', G[j]? = some (.ow c') → ad j ≠ p := fun j c' g z => hZ (.inr (.inl ⟨j, c', g, z.symm⟩))
  refine ⟨by rw [List.length_set, List.length_set]; exact S.len, fun j en g => ?_, fun j k ys zs g g' q => ?_, fun j ys g => ?_, fun a o q n => ?_, S.bag.upd hB, fun a z => (S.wd a z).elim fun o q => upd_there q, fun p' hp' => (S.tab p' hp').mono ex (upd_ne fun z => hB (z ▸ InB.tab hp'))⟩
  · rcases get_set g with ⟨rfl, l, rfl⟩ | ⟨z, g⟩
    · exact ⟨_, List.getElem?_set_self (by rw [S.len]; exact l), by rw [swp_same], vs, by rw [swp_same]; exact upd_same, dpa_mono ex h⟩
    · obtain ⟨o', h1, h2⟩ := S.at_ j en g
      refine ⟨o', by rw [List.getElem?_set_ne z]; exact h1, ?_⟩
      cases en with
      | un => trivial
      | d d => obtain ⟨v, e, h⟩ := h2; exact ⟨v, e, dp_mono ex h⟩
      | ow ys =>
        obtain ⟨e, us, h3, h4⟩ := h2
        have hj : swp ad i p j = ad j := swp_ne z
        exact ⟨by rw [hj]; exact e, us, by rw [hj, upd_ne (hne j ys g)]; exact h3, dpa_mono ex h4⟩
      | bag => exact h2
      | xc a d fs => exact ⟨h2.1, ex _ _ h2.2⟩
      | fz c => obtain ⟨a, vs, e, h1, h2⟩ := h2; exact ⟨a, vs, e, ex _ _ h1, dpa_mono ex h2⟩
      | vl v => exact h2
      | fn f d q us ds => exact ⟨h2.1, ex _ _ h2.2.1, dpa_mono ex h2.2.2⟩
      | tb T => exact h2
      | rv ρ => obtain ⟨v, e, h⟩ := h2; exact ⟨v, e, fun M m => h M fun a o q => m a o (ex a o q)⟩
  · rcases get_set g with ⟨rfl, l, e⟩ | ⟨z, g⟩
    · rcases get_set g' with ⟨rfl, l', e'⟩ | ⟨z', g'⟩
      · rfl
      · rw [swp_same, swp_ne z'] at q
        exact absurd q.symm (hne k zs g')
    · rcases get_set g' with ⟨rfl, l', e'⟩ | ⟨z', g'⟩
      · rw [swp_same, swp_ne z] at q
        exact absurd q (hne j ys g)
      · rw [swp_ne z, swp_ne z'] at q
        exact S.inj j k ys zs g g' q
  · rcases get_set g with ⟨rfl, l, e⟩ | ⟨z, g⟩
    · rw [swp_same]
      refine ⟨h0, hB, fun z => hZ (.inl z)⟩
    · rw [swp_ne z]; exact S.sep j ys g
  · rw [upd_ne (fun z => by rw [z, h0] at q; cases q)]
    exact S.base a o q n
  ) only [↓qt_eq])
theorem chg_zz {i : Nat} {c c' : Own} (hi : G[i]? = some (.ow c)) (a : Addr) : Zs W B ad (G.set i (.ow c')) a ↔ Zs W B ad G a := qt_of (by simp (disch := with_unfolding_all
  have il : i < G.length := (List.getElem?_eq_some_iff.mp hi).1
  constructor
  · rintro (h | ⟨j, zs, g, r⟩ | h)
    · exact .inl h
    · rcases get_set g with ⟨rfl, l, e⟩ | ⟨z, g⟩
      · exact .inr (.inl ⟨i, c, hi, r⟩)
      · exact .inr (.inl ⟨j, zs, g, r⟩)
    · exact .inr (.inr h)
  · rintro (h | ⟨j, zs, g, r⟩ | h)
    · exact .inl h
    · by_cases z : i = j
      · subst z
        exact .inr (.inl ⟨i, c', List.getElem?_set_self il, r⟩)
      · exact .inr (.inl ⟨j, zs, by rw [List.getElem?_set_ne z]; exact g, r⟩)
    · exact .inr (.inr h)
  ) only [↓qt_eq])
theorem chg_ex {i : Nat} {c c' : Own} {u : HO} (hi : G[i]? = some (.ow c)) : Ex (less H (Zs W B ad G)) (less (upd H (ad i) u) (Zs W B ad (G.set i (.ow c')))) := fun a o q => by
  obtain ⟨q1, q2⟩ := less_some q
  refine less_of (fun z => q1 ((chg_zz hi a).mp z)) ?_
  rw [upd_ne (fun z => q1 (.inr (.inl ⟨i, c, hi, z⟩)))]; exact q2
/-- a thing of one's own is changed -/
theorem Sta.chg (S : Sta K W B ad H0 H σ G) {i : Nat} {c c' : Own} {vs : List V} (hi : G[i]? = some (.ow c)) (h : DpAll K (less H (Zs W B ad G)) vs c'.flat) : Sta K W B ad H0 (upd H (ad i) (c'.obj (ad i) vs)) σ (G.set i (.ow c')) := qt_of (by simp (disch := with_unfolding_all
  have ex : Ex (less H (Zs W B ad G)) (less (upd H (ad i) (c'.obj (ad i) vs)) (Zs W B ad (G.set i (.ow c')))) := chg_ex hi
  obtain ⟨s0, sB, sW⟩ := S.sep i c hi
  refine ⟨by rw [List.length_set]; exact S.len, fun j en g => ?_, fun j k ys' zs g g' q => ?_, fun j zs g => ?_, fun a o q n => ?_, S.bag.upd sB, fun a z => (S.wd a z).elim fun o q => upd_there q, fun p hp => (S.tab p hp).mono ex (upd_ne fun z => sB (z ▸ InB.tab hp))⟩
  · rcases get_set g with ⟨rfl, l, rfl⟩ | ⟨z, g⟩
    · obtain ⟨o', h1, h2, _⟩ := S.at_ i _ hi
      exact ⟨o', h1, h2, vs, upd_same, dpa_mono ex h⟩
    · obtain ⟨o', h1, h2⟩ := S.at_ j en g
      refine ⟨o', h1, ?_⟩
      cases en with
      | un => trivial
      | d d => obtain ⟨v, e, h⟩ := h2; exact ⟨v, e, dp_mono ex h⟩
      | ow zs =>
        obtain ⟨e, us, h3, h4⟩ := h2
        exact ⟨e, us, by rw [upd_ne (fun w => z (S.inj i j c zs hi g w.symm))]; exact h3, dpa_mono ex h4⟩
      | bag => exact h2
      | xc a d fs => exact ⟨h2.1, ex _ _ h2.2⟩
      | fz c => obtain ⟨a, vs, e, h1, h2⟩ := h2; exact ⟨a, vs, e, ex _ _ h1, dpa_mono ex h2⟩
      | vl v => exact h2
      | fn f d q us ds => exact ⟨h2.1, ex _ _ h2.2.1, dpa_mono ex h2.2.2⟩
      | tb T => exact h2
      | rv ρ => obtain ⟨v, e, h⟩ := h2; exact ⟨v, e, fun M m => h M fun a o q => m a o (ex a o q)⟩
  · rcases get_set g with ⟨rfl, l, e⟩ | ⟨z, g⟩
    · rcases get_set g' with ⟨rfl, l', e'⟩ | ⟨z', g'⟩
      · rfl
      · exact S.inj i k c zs hi g' q
    · rcases get_set g' with ⟨rfl, l', e'⟩ | ⟨z', g'⟩
      · exact S.inj j i ys' c g hi q
      · exact S.inj j k ys' zs g g' q
  · rcases get_set g with ⟨rfl, l, e⟩ | ⟨z, g⟩
    · exact S.sep i c hi
    · exact S.sep j zs g
  · rw [upd_ne (fun z => by rw [z, s0] at q; cases q)]
    exact S.base a o q n
  ) only [↓qt_eq])
/-- a list of one's own is from now on data -/
theorem Sta.freeze (S : Sta K W B ad H0 H σ G) {i : Nat} {xs : List PyData} (hi : G[i]? = some (.ow (ol xs))) : Sta K W B ad H0 H σ (G.set i (.d (.list xs))) := qt_of (by simp (disch := with_unfolding_all
  have ex : Ex (less H (Zs W B ad G)) (less H (Zs W B ad (G.set i (.d (.list xs))))) := less_sub fun a q => Zs.set_of (fun _ z => by cases z) q
  refine ⟨by rw [List.length_set]; exact S.len, fun j en g => ?_, fun j k ys' zs g g' q => ?_, fun j zs g => ?_, S.base, S.bag, S.wd, fun p hp => (S.tab p hp).mono ex rfl⟩
  · rcases get_set g with ⟨rfl, l, rfl⟩ | ⟨z, g⟩
    · obtain ⟨o', h1, h2, vs, h3, h4⟩ := S.at_ i _ hi
      refine ⟨o', h1, _, h2, .lst (sq_of (less_of ?_ h3)) (dpa_mono ex h4)⟩
      rintro (z | ⟨j, zs, g, r⟩ | z)
      · exact (S.sep i _ hi).2.2 z
      · rcases get_set g with ⟨rfl, _, e⟩ | ⟨z, g⟩
        · cases e
        · exact z (S.inj i j _ zs hi g r)
      · exact (S.sep i _ hi).2.1 z
    · obtain ⟨o', h1, h2⟩ := S.at_ j en g
      exact ⟨o', h1, h2.mono ex fun _ _ _ q => q⟩
  · rcases get_set g with ⟨rfl, l, e⟩ | ⟨z, g⟩
    · cases e
    · rcases get_set g' with ⟨rfl, l', e'⟩ | ⟨z', g'⟩
      · cases e'
      · exact S.inj j k ys' zs g g' q
  · rcases get_set g with ⟨rfl, l, e⟩ | ⟨z, g⟩
    · cases e
    · exact S.sep j zs g
  ) only [↓qt_eq])
/-- a thing of one's own stays from now on as it is -/
theorem Sta.freezeO (S : Sta K W B ad H0 H σ G) {i : Nat} {c : Own} (hi : G[i]? = some (.ow c)) : Sta K W B ad H0 H σ (G.set i (.fz c)) := qt_of (by simp (disch := with_unfolding_all
  have ex : Ex (less H (Zs W B ad G)) (less H (Zs W B ad (G.set i (.fz c)))) := less_sub fun a q => Zs.set_of (fun _ z => by cases z) q
  refine ⟨by rw [List.length_set]; exact S.len, fun j en g => ?_, fun j k ys' zs g g' q => ?_, fun j zs g => ?_, S.base, S.bag, S.wd, fun p hp => (S.tab p hp).mono ex rfl⟩
  · rcases get_set g with ⟨rfl, l, rfl⟩ | ⟨z, g⟩
    · obtain ⟨o', h1, h2, vs, h3, h4⟩ := S.at_ i _ hi
      refine ⟨o', h1, _, _, h2, less_of ?_ h3, dpa_mono ex h4⟩
      rintro (z | ⟨j, zs, g, r⟩ | z)
      · exact (S.sep i _ hi).2.2 z
      · rcases get_set g with ⟨rfl, _, e⟩ | ⟨z, g⟩
        · cases e
        · exact z (S.inj i j _ zs hi g r)
      · exact (S.sep i _ hi).2.1 z
    · obtain ⟨o', h1, h2⟩ := S.at_ j en g
      exact ⟨o', h1, h2.mono ex fun _ _ _ q => q⟩
  · rcases get_set g with ⟨rfl, l, e⟩ | ⟨z, g⟩
    · cases e
    · rcases get_set g' with ⟨rfl, l', e'⟩ | ⟨z', g'⟩
      · cases e'
      · exact S.inj j k ys' zs g g' q
  · rcases get_set g with ⟨rfl, l, e⟩ | ⟨z, g⟩
    · cases e
    · exact S.sep j zs g
  ) only [↓qt_eq])
/-- a thing of another's, which is new to this def, is changed -/
theorem Sta.foreign (S : Sta K W B ad H0 H σ G) {p : Addr} {o : HO} (hw : W p) (h0 : H0 p = none) (hB : ¬ InB B p) : Sta K W B ad H0 (upd H p o) σ G ∧ less (upd H p o) (Zs W B ad G) = less H (Zs W B ad G) := qt_of (by simp (disch := with_unfolding_all
  have el : less (upd H p o) (Zs W B ad G) = less H (Zs W B ad G) := by
    funext a
    by_cases z : Zs W B ad G a
    · rw [less_yes z, less_yes z]
    · rw [less_no z, less_no z, upd_ne (fun e => z (.inl (by rw [e]; exact hw)))]
  refine ⟨⟨S.len, fun i e h => ?_, S.inj, S.sep, fun a u q n => ?_, S.bag.upd hB, fun a z => (S.wd a z).elim fun o q => upd_there q, fun p' hp' => (S.tab p' hp').mono (by rw [el]; exact Ex.refl _) (upd_ne fun z => hB (z ▸ InB.tab hp'))⟩, el⟩
  · obtain ⟨u, g1, g2⟩ := S.at_ i e h
    refine ⟨u, g1, g2.mono (by rw [el]; exact Ex.refl _) fun c vs q q2 => ?_⟩
    subst q
    rw [upd_ne (fun z => (S.sep i c h).2.2 (by rw [z]; exact hw))]; exact q2
  · rw [upd_ne (fun z => by rw [z, h0] at q; cases q)]; exact S.base a u q n
  ) only [↓qt_eq])
/-- a new thing is for a while another's -/
theorem Sta.lend (S : Sta K W B ad H0 H σ G) {p : Addr} {o : HO} (hp : H p = none) : Sta K (fun a => W a ∨ a = p) B ad H0 (upd H p o) σ G ∧ less (upd H p o) (Zs (fun a => W a ∨ a = p) B ad G) = less H (Zs W B ad G) := qt_of (by simp (disch := with_unfolding_all
  obtain ⟨_, _, np⟩ := S.fresh hp
  have zz : ∀ a, Zs (fun a => W a ∨ a = p) B ad G a ↔ Zs W B ad G a ∨ a = p := fun a => by
    constructor
    · rintro ((z | z) | z | z)
      · exact .inl (.inl z)
      · exact .inr z
      · exact .inl (.inr (.inl z))
      · exact .inl (.inr (.inr z))
    · rintro ((z | z | z) | z)
      · exact .inl (.inl z)
      · exact .inr (.inl z)
      · exact .inr (.inr z)
      · exact .inl (.inr z)
  have el : less (upd H p o) (Zs (fun a => W a ∨ a = p) B ad G) = less H (Zs W B ad G) := by
    funext a
    by_cases e : a = p
    · rw [less_yes ((zz a).mpr (.inr e)), e, less_no np, hp]
    · by_cases z : Zs W B ad G a
      · rw [less_yes z, less_yes ((zz a).mpr (.inl z))]
      · rw [less_no z, less_no (fun y => ((zz a).mp y).elim z e), upd_ne e]
  have ex : Ex H (upd H p o) := Ex.new hp
  have S' := S.ext ex
  refine ⟨⟨S.len, fun i e h => ?_, S.inj, fun i c h => ⟨(S.sep i c h).1, (S.sep i c h).2.1, fun z => z.elim (S.sep i c h).2.2 fun z => np (by rw [← z]; exact .inr (.inl ⟨i, c, h, rfl⟩))⟩, S'.base, S'.bag, fun a z => z.elim (fun z => S'.wd a z) fun z => ⟨o, by rw [z]; exact upd_same⟩, fun p' hp' => (S.tab p' hp').mono (by rw [el]; exact Ex.refl _) (upd_ne fun z => np (z ▸ .inr (.inr (InB.tab hp'))))⟩, el⟩
  obtain ⟨u, g1, g2⟩ := S.at_ i e h
  exact ⟨u, g1, g2.mono (by rw [el]; exact Ex.refl _) fun c vs q q2 => ex _ _ q2⟩
  ) only [↓qt_eq])
/-- .. and is given back -/
theorem Sta.back {p : Addr} (S : Sta K (fun a => W a ∨ a = p) B ad H0 H σ G) : Sta K W B ad H0 H σ G ∧ Ex (less H (Zs (fun a => W a ∨ a = p) B ad G)) (less H (Zs W B ad G)) := qt_of (by simp (disch := with_unfolding_all
  have ex : Ex (less H (Zs (fun a => W a ∨ a = p) B ad G)) (less H (Zs W B ad G)) := less_sub fun a z => z.elim (fun z => .inl (.inl z)) .inr
  refine ⟨⟨S.len, fun i e h => ?_, S.inj, fun i c h => ⟨(S.sep i c h).1, (S.sep i c h).2.1, fun z => (S.sep i c h).2.2 (.inl z)⟩, S.base, S.bag, fun a z => S.wd a (.inl z), fun p hp => (S.tab p hp).mono ex rfl⟩, ex⟩
  obtain ⟨u, g1, g2⟩ := S.at_ i e h
  exact ⟨u, g1, g2.mono ex fun _ _ _ q => q⟩
  ) only [↓qt_eq])
theorem new_ex (S : Sta K W B ad H0 H σ G) {p : Addr} {o : HO} (h : H p = none) :
    Sta K W B ad H0 (upd H p o) σ G ∧ Xb B H (upd H p o) ∧ less (upd H p o) (Zs W B ad G) p = some o := by
  have e : Ex H (upd H p o) := Ex.new h
  exact ⟨S.ext e, .of e, less_of (S.fresh h).2.2 upd_same⟩
end
end U.N

end
section
namespace U.N
open PySem PyProof.Rows L2 Evl
/-! ### relations by name -/
@[irreducible] def rAddI : R2 := rI0 fun i j => .int (i + j)
@[irreducible] def rSubI : R2 := rI0 fun i j => .int (i - j)
@[irreducible] def rPowI : R2 := rI CPow fun i j => .int (i ^ j.toNat)
@[irreducible] def rLtI : R2 := rI0 fun i j => .bl (decide (i < j))
@[irreducible] def rGtI : R2 := rI0 fun i j => .bl (decide (j < i))
@[irreducible] def rNegI : V → Hp → VK → Prop := rU fun i => .int (-i)
section
variable {X : Cx}
theorem op_addI : OpR X (binaryOp .Add) rAddI := by unfold rAddI; exact op_add
theorem op_subI : OpR X (binaryOp .Sub) rSubI := by unfold rSubI; exact op_sub
theorem op_powI : OpR X (binaryOp .Pow) rPowI := by unfold rPowI; exact op_pow
theorem op_ltI : OpR X (compareOp .Lt) rLtI := by unfold rLtI; exact op_lt
theorem op_gtI : OpR X (compareOp .Gt) rGtI := by unfold rGtI; exact op_gt
theorem un_negI : UnR X (unaryOp .USub) rNegI := by unfold rNegI; exact un_neg
end
/-! ### what is wanted -/
section
variable (K : Fg) (cs : Cs) (W : WX)
/-- what may leave by raising -/
noncomputable def XP (Wd : Addr → Prop) (B : Bt) (ad : Nat → Addr) (H0 H : Hp) (σ : St) (G : Gam) (ε : Xw → Prop) : Prop :=
  ∀ e, ε e → ∀ d H2, Sta K Wd B ad H0 H2 σ G → Xb B H H2 → H0 d = none → less H2 (Zs Wd B ad G) d = some (.xd e.fs) → W (.ref (cs e.cls)) (some d) σ H2
noncomputable def EW (te : TE) (G : Gam) (φ : PyData → Prop) (ε : Xw → Prop) : Prop :=
  ∀ Wd B ad H0 H σ, Sta K Wd B ad H0 H σ G → ∀ Q : VK, (∀ x, φ x → ∀ v H2, Sta K Wd B ad H0 H2 σ G → Xb B H H2 → Dp K (less H2 (Zs Wd B ad G)) v x → Q v H2) → XP K cs W Wd B ad H0 H σ G ε → te σ H Q
/-- a new thing of one's own -/
noncomputable def EF (te : TE) (G : Gam) (ψ : Own → Prop) (ε : Xw → Prop) : Prop :=
  ∀ Wd B ad H0 H σ, Sta K Wd B ad H0 H σ G → ∀ Q : VK, (∀ c, ψ c → ∀ a vs H2, Sta K Wd B ad H0 H2 σ G → Xb B H H2 → H2 a = none → DpAll K (less H2 (Zs Wd B ad G)) vs c.flat → Q (.ref a) (upd H2 a (c.obj a vs))) → XP K cs W Wd B ad H0 H σ G ε → te σ H Q
noncomputable def TW (tt : TT) (G : Gam) (ψ : Bool → Prop) (ε : Xw → Prop) : Prop :=
  ∀ Wd B ad H0 H σ, Sta K Wd B ad H0 H σ G → ∀ Q : Bool → Hp → Prop, (∀ b, ψ b → ∀ H2, Sta K Wd B ad H0 H2 σ G → Xb B H H2 → Q b H2) → XP K cs W Wd B ad H0 H σ G ε → tt σ H Q
noncomputable def AW (ta : TA) (G : Gam) (α : List PyData → Prop) (ε : Xw → Prop) : Prop :=
  ∀ Wd B ad H0 H σ, Sta K Wd B ad H0 H σ G → ∀ Q : List V → Hp → Prop, (∀ xs, α xs → ∀ vs H2, Sta K Wd B ad H0 H2 σ G → Xb B H H2 → DpAll K (less H2 (Zs Wd B ad G)) vs xs → Q vs H2) → XP K cs W Wd B ad H0 H σ G ε → ta σ H Q
noncomputable def IW (wi : TI) (G : Gam) (ι : List PyData → Prop) (ε : Xw → Prop) : Prop :=
  ∀ Wd B ad H0 H σ, Sta K Wd B ad H0 H σ G → ∀ R : It → Hp → Prop, (∀ ds, ι ds → ∀ J H1, Sta K Wd B ad H0 H1 σ G → Xb B H H1 → ItOk K J ds (less H1 (Zs Wd B ad G)) → R J H1) → XP K cs W Wd B ad H0 H σ G ε → wi σ H R
noncomputable def OW (to : TO) (G : Gam) (ψ : Option Int → Prop) (ε : Xw → Prop) : Prop :=
  ∀ Wd B ad H0 H σ, Sta K Wd B ad H0 H σ G → ∀ Q : Option Int → Hp → Prop, (∀ o, ψ o → ∀ H2, Sta K Wd B ad H0 H2 σ G → Xb B H H2 → Q o H2) → XP K cs W Wd B ad H0 H σ G ε → to σ H Q
inductive Out where
  | nx (G : Gam)
  | rt (x : PyData)
  | rl (c : Own)
  | bk (G : Gam)
  | ct (G : Gam)
  | ex (e : Xw) (G : Gam)
noncomputable def PostO (Wd : Addr → Prop) (B : Bt) (H0 M : Hp) (D : Ends) : Out → Prop
  | .nx G => ∀ ad H σ, Sta K Wd B ad H0 H σ G → Ex M (less H (Zs Wd B ad G)) → D.nx σ H
  | .rt x => ∀ v H, Xb B H0 H → BagOk H B → (∀ p ∈ B.T, TabZ H (fun a => Wd a ∨ InB B a) p) → Dp K (less H fun a => Wd a ∨ InB B a) v x → D.rt v H
  | .rl c => ∀ a vs H, Xb B H0 H → BagOk H B → (∀ p ∈ B.T, TabZ H (fun b => (Wd b ∨ InB B b) ∨ b = a) p) → H0 a = none → H a = some (c.obj a vs) → DpAll K (less H fun b => (Wd b ∨ InB B b) ∨ b = a) vs c.flat → D.rt (.ref a) H
  | .bk G => ∀ ad H σ, Sta K Wd B ad H0 H σ G → Ex M (less H (Zs Wd B ad G)) → D.bk σ H
  | .ct G => ∀ ad H σ, Sta K Wd B ad H0 H σ G → Ex M (less H (Zs Wd B ad G)) → D.ct σ H
  | .ex e G => ∀ d ad H σ, Sta K Wd B ad H0 H σ G → Ex M (less H (Zs Wd B ad G)) → H0 d = none → less H (Zs Wd B ad G) d = some (.xd e.fs) → W (.ref (cs e.cls)) (some d) σ H
noncomputable def SW (ts : TS) (G : Gam) (Φ : Out → Prop) : Prop :=
  ∀ Wd B ad H0 H σ (D : Ends), Sta K Wd B ad H0 H σ G → (∀ o, Φ o → PostO K cs W Wd B H0 (less H (Zs Wd B ad G)) D o) → ts D σ H
end
noncomputable def Cnd (b : Bool) (P Q : Prop) : Prop := (b = true → P) ∧ (b = false → Q)
section
variable {P Q : Prop} {b : Bool}
theorem cnd_t (p : P) : Cnd true P Q := ⟨fun _ => p, (nomatch ·)⟩
theorem cnd_f (q : Q) : Cnd false P Q := ⟨(nomatch ·), fun _ => q⟩
theorem cnd_nt (q : Q) : Cnd (!true) P Q := cnd_f q
theorem cnd_T (h : b = true) (p : P) : Cnd b P Q := ⟨fun _ => p, fun h' => by rw [h] at h'; cases h'⟩
theorem cnd_F (h : b = false) (q : Q) : Cnd b P Q := ⟨fun h' => (by rw [h] at h'; cases h'), fun _ => q⟩
theorem cnd_b (p : b = true → P) (q : b = false → Q) : Cnd b P Q := ⟨p, q⟩
theorem cnd_yes {p : Prop} [Decidable p] (h : p) (x : P) : Cnd (decide p) P Q := cnd_T (decide_eq_true h) x
theorem cnd_no {p : Prop} [Decidable p] (h : ¬ p) (x : Q) : Cnd (decide p) P Q := cnd_F (decide_eq_false h) x
theorem cnd_d {p : Prop} [Decidable p] (x : p → P) (y : ¬ p → Q) : Cnd (decide p) P Q := ⟨fun h => x (of_decide_eq_true h), fun h => y (of_decide_eq_false h)⟩
theorem cnd_nd {p : Prop} [Decidable p] (x : ¬ p → P) (y : p → Q) : Cnd (!decide p) P Q := ⟨fun h => x (fun z => by rw [decide_eq_true z] at h; cases h), fun h => y (Classical.byContradiction fun z => by rw [decide_eq_false z] at h; cases h)⟩
end
section
variable {K : Fg} {cs : Cs} {W : WX} {G G' G1 G2 : Gam} {ta tb tc te : TE} {t u : TT} {φ : PyData → Prop} {ε : Xw → Prop} {ψ : Bool → Prop} {α : List PyData → Prop} {ι : List PyData → Prop} {χ : Own → Prop} {ω : Option Int → Prop}
variable {Wd : Addr → Prop} {B : Bt} {ad : Nat → Addr} {H0 H H1 H2 : Hp} {σ : St}
theorem XP.go (h : XP K cs W Wd B ad H0 H σ G ε) (x : Xb B H H1) : XP K cs W Wd B ad H0 H1 σ G ε := fun e he d H2 S y hd hx => h e he d H2 S (x.trans y) hd hx
theorem ew_mono {φ' : PyData → Prop} (h : EW K cs W te G φ ε) (m : ∀ x, φ x → φ' x) : EW K cs W te G φ' ε := fun Wd B ad H0 H σ S Q q x => h Wd B ad H0 H σ S Q (fun y hy => q y (m y hy)) x
theorem aw_mono {α' : List PyData → Prop} {ta : TA} (h : AW K cs W ta G α ε) (m : ∀ x, α x → α' x) : AW K cs W ta G α' ε := fun Wd B ad H0 H σ S Q q x => h Wd B ad H0 H σ S Q (fun y hy => q y (m y hy)) x
theorem tw_mono {ψ' : Bool → Prop} (h : TW K cs W t G ψ ε) (m : ∀ x, ψ x → ψ' x) : TW K cs W t G ψ' ε := fun Wd B ad H0 H σ S Q q x => h Wd B ad H0 H σ S Q (fun y hy => q y (m y hy)) x
/-! ### values -/
theorem ew_var {i : Nat} {x : PyData} (h : G[i]? = some (.d x)) (p : φ x) : EW K cs W (tVar i) G φ ε := fun Wd B ad H0 H σ S Q q _ => by
  obtain ⟨o, h1, v, rfl, h2⟩ := S.at_ i _ h
  exact ⟨v, h1, q x p v H S Xb.refl h2⟩
theorem ew_glob {v : V} {x : PyData} (h : ∀ H, Dp K H v x) (p : φ x) : EW K cs W (tC v) G φ ε := fun Wd B ad H0 H σ S Q q _ => q x p _ H S Xb.refl (h _)
theorem ew_int {i : Int} (p : φ (.int i)) : EW K cs W (tC (.int i)) G φ ε := ew_glob (fun _ => .int i) p
theorem ew_bl {b : Bool} (p : φ (.bool b)) : EW K cs W (tC (.bl b)) G φ ε := ew_glob (fun _ => .bl b) p
theorem ew_str {b : Str} (p : φ (.str b)) : EW K cs W (tC (.str b)) G φ ε := ew_glob (fun _ => .str b) p
/-! ### arguments, displays -/
theorem aw_nil (p : α []) : AW K cs W tNil G α ε := fun Wd B ad H0 H σ S Q q _ => q _ p _ H S Xb.refl .nil
theorem aw_cons {tr : TA} (h : EW K cs W ta G (fun x => AW K cs W tr G (fun xs => α (x :: xs)) ε) ε) : AW K cs W (tCons ta tr) G α ε := fun Wd B ad H0 H σ S Q q x =>
  h Wd B ad H0 H σ S _ (fun x1 p1 v H1 S1 e1 d1 => p1 Wd B ad H0 H1 σ S1 _ (fun xs p2 vs H2 S2 e2 d2 => q _ p2 _ H2 S2 (e1.trans e2) (.cons (dp_mono (Xb.lz e2) d1) d2)) (x.go e1)) x
theorem ew_ef (h : EF K cs W te G (fun c => ∃ xs, c = ol xs ∧ φ (.list xs)) ε) : EW K cs W te G φ ε := fun Wd B ad H0 H σ S Q q x =>
  h Wd B ad H0 H σ S _ (fun c p a vs H2 S2 e2 hn d => by
    obtain ⟨xs, rfl, p⟩ := p
    obtain ⟨S3, e3, g⟩ := new_ex (o := .lst vs) S2 hn
    exact q _ p _ _ S3 (e2.trans e3) (.lst (sq_of g) (dpa_mono (Xb.lz e3) d))) x
theorem ew_tup {ta : TA} (h : AW K cs W ta G (fun xs => xs.length ≤ 16000000 ∧ φ (.tuple xs)) ε) : EW K cs W (tTup ta) G φ ε := fun Wd B ad H0 H σ S Q q x =>
  h Wd B ad H0 H σ S _ (fun xs p vs H1 S1 e1 d1 => ⟨by rw [dpa_len d1]; exact sz_line p.1, fun a ha => by
    obtain ⟨S2, e2, g⟩ := new_ex (o := .tup vs) S1 ha
    exact q _ p.2 _ _ S2 (e1.trans e2) (.tup (st_of g) (dpa_mono (Xb.lz e2) d1))⟩) x
theorem ef_lst {ta : TA} (h : AW K cs W ta G (fun xs => xs.length ≤ 16000000 ∧ χ (ol xs)) ε) : EF K cs W (tLst ta) G χ ε := fun Wd B ad H0 H σ S Q q x =>
  h Wd B ad H0 H σ S _ (fun xs p vs H1 S1 e1 d1 => ⟨by rw [dpa_len d1]; exact sz_line p.1, fun a ha => q _ p.2 a vs H1 S1 e1 ha d1⟩) x
theorem ew_lst {ta : TA} (h : AW K cs W ta G (fun xs => xs.length ≤ 16000000 ∧ φ (.list xs)) ε) : EW K cs W (tLst ta) G φ ε := ew_ef (ef_lst (aw_mono h fun xs p => ⟨p.1, xs, rfl, p.2⟩))
/-! ### operators -/
theorem ew_op {r : R2} (h : EW K cs W ta G (fun x => EW K cs W tb G (fun y => ∀ Wd B ad H0 H σ v w, Sta K Wd B ad H0 H σ G → Dp K (less H (Zs Wd B ad G)) v x → Dp K (less H (Zs Wd B ad G)) w y → ∀ Q : VK, (∀ z, φ z → ∀ v H2, Sta K Wd B ad H0 H2 σ G → Xb B H H2 → Dp K (less H2 (Zs Wd B ad G)) v z → Q v H2) → r v w H Q) ε) ε) : EW K cs W (tOp r ta tb) G φ ε := fun Wd B ad H0 H σ S Q q x =>
  h Wd B ad H0 H σ S _ (fun x1 p1 v H1 S1 e1 d1 => p1 Wd B ad H0 H1 σ S1 _ (fun y p2 w H2 S2 e2 d2 => p2 Wd B ad H0 H2 σ v w S2 (dp_mono (Xb.lz e2) d1) d2 Q fun z p v H3 S3 e3 d3 => q z p v H3 S3 ((e1.trans e2).trans e3) d3) (x.go e1)) x
theorem ew_I0 {g : Int → Int → V} {f : Int → Int → PyData} (hg : ∀ i j H, Dp K H (g i j) (f i j)) (h : EW K cs W ta G (fun x => ∃ i, x = .int i ∧ EW K cs W tb G (fun y => ∃ j, y = .int j ∧ φ (f i j)) ε) ε) : EW K cs W (tOp (rI0 g) ta tb) G φ ε :=
  ew_op (ew_mono h fun x ⟨i, e, h⟩ => ew_mono h fun y ⟨j, e2, p⟩ => fun Wd B ad H0 H σ v w S d1 d2 Q q => by
    subst e; subst e2
    cases d1; cases d2
    exact ⟨i, j, rfl, rfl, q _ p _ H S Xb.refl (hg i j _)⟩)
theorem ew_I {C : Int → Int → Prop} {g : Int → Int → V} {f : Int → Int → PyData} (hg : ∀ i j H, Dp K H (g i j) (f i j)) (h : EW K cs W ta G (fun x => ∃ i, x = .int i ∧ EW K cs W tb G (fun y => ∃ j, y = .int j ∧ C i j ∧ φ (f i j)) ε) ε) : EW K cs W (tOp (rI C g) ta tb) G φ ε :=
  ew_op (ew_mono h fun x ⟨i, e, h⟩ => ew_mono h fun y ⟨j, e2, c, p⟩ => fun Wd B ad H0 H σ v w S d1 d2 Q q => by
    subst e; subst e2
    cases d1; cases d2
    exact ⟨i, j, rfl, rfl, c, q _ p _ H S Xb.refl (hg i j _)⟩)
theorem ew_add (h : EW K cs W ta G (fun x => ∃ i, x = .int i ∧ EW K cs W tb G (fun y => ∃ j, y = .int j ∧ φ (.int (i + j))) ε) ε) : EW K cs W (tOp rAddI ta tb) G φ ε := by unfold rAddI; exact ew_I0 (f := fun i j => .int (i + j)) (fun _ _ _ => .int _) h
theorem ew_sub (h : EW K cs W ta G (fun x => ∃ i, x = .int i ∧ EW K cs W tb G (fun y => ∃ j, y = .int j ∧ φ (.int (i - j))) ε) ε) : EW K cs W (tOp rSubI ta tb) G φ ε := by unfold rSubI; exact ew_I0 (f := fun i j => .int (i - j)) (fun _ _ _ => .int _) h
theorem ew_pow (h : EW K cs W ta G (fun x => ∃ i, x = .int i ∧ EW K cs W tb G (fun y => ∃ j, y = .int j ∧ CPow i j ∧ φ (.int (i ^ j.toNat))) ε) ε) : EW K cs W (tOp rPowI ta tb) G φ ε := by unfold rPowI; exact ew_I (f := fun i j => .int (i ^ j.toNat)) (fun _ _ _ => .int _) h
theorem ew_lt (h : EW K cs W ta G (fun x => ∃ i, x = .int i ∧ EW K cs W tb G (fun y => ∃ j, y = .int j ∧ φ (.bool (decide (i < j)))) ε) ε) : EW K cs W (tOp rLtI ta tb) G φ ε := by unfold rLtI; exact ew_I0 (f := fun i j => .bool (decide (i < j))) (fun _ _ _ => .bl _) h
theorem ew_gt (h : EW K cs W ta G (fun x => ∃ i, x = .int i ∧ EW K cs W tb G (fun y => ∃ j, y = .int j ∧ φ (.bool (decide (j < i)))) ε) ε) : EW K cs W (tOp rGtI ta tb) G φ ε := by unfold rGtI; exact ew_I0 (f := fun i j => .bool (decide (j < i))) (fun _ _ _ => .bl _) h
theorem ew_neg (h : EW K cs W ta G (fun x => ∃ i, x = .int i ∧ φ (.int (-i))) ε) : EW K cs W (tUn rNegI ta) G φ ε := by
 unfold rNegI
 exact fun Wd B ad H0 H σ S Q q x => h Wd B ad H0 H σ S _ (fun y ⟨i, e, p⟩ v H1 S1 e1 d1 => by
    subst e
    cases d1
    exact ⟨i, rfl, q _ p _ H1 S1 e1 (.int _)⟩) x
/-- == of scalars -/
noncomputable def scEq : PyData → PyData → Option Bool
  | .int i, .int j => some (decide (i = j))
  | .str i, .str j => some (decide (i = j))
  | .bool i, .bool j => some (decide (i = j))
  | .none, .none => some true
  | _, _ => none
theorem sc_eq {H : Hp} {v w : V} {x y : PyData} {b : Bool} (d1 : Dp K H v x) (d2 : Dp K H w y) (h : scEq x y = some b) : scal v w = true ∧ decide (v = w) = b := by
  cases d1 <;> cases d2 <;> first | (cases h; done) | skip
  · cases h; exact ⟨rfl, rfl⟩
  · cases h; exact ⟨rfl, by simp⟩
  · cases h; exact ⟨rfl, by simp⟩
  · cases h; exact ⟨rfl, by simp⟩
theorem ew_eq (h : EW K cs W ta G (fun x => EW K cs W tb G (fun y => ∃ b, scEq x y = some b ∧ φ (.bool b)) ε) ε) : EW K cs W (tOp rEq ta tb) G φ ε :=
  ew_op (ew_mono h fun x h => ew_mono h fun y ⟨b, e, p⟩ => fun Wd B ad H0 H σ v w S d1 d2 Q q => by
    obtain ⟨h1, h2⟩ := sc_eq d1 d2 e
    exact ⟨h1, by rw [h2]; exact q _ p _ H S Xb.refl (.bl _)⟩)
theorem ew_ne (h : EW K cs W ta G (fun x => EW K cs W tb G (fun y => ∃ b, scEq x y = some b ∧ φ (.bool (!b))) ε) ε) : EW K cs W (tOp rNe ta tb) G φ ε :=
  ew_op (ew_mono h fun x h => ew_mono h fun y ⟨b, e, p⟩ => fun Wd B ad H0 H σ v w S d1 d2 Q q => by
    obtain ⟨h1, h2⟩ := sc_eq d1 d2 e
    exact ⟨h1, by rw [h2]; exact q _ p _ H S Xb.refl (.bl _)⟩)
end
end U.N

end
section
/-! Dicts whose keys are tuples, nested ones too: by what they hold. -/
namespace U
open PySem PySem.Spec PyProof.Rows L2 Evl
noncomputable abbrev NK := NestedKey
mutual
/-- data as keys -/
noncomputable def toK : PyData → Option NK
  | .none => some .none
  | .int i => some (.num i)
  | .str x => some (.text x)
  | .tuple xs => (toKs xs).map .tup
  | _ => none
noncomputable def toKs : List PyData → Option (List NK)
  | [] => some []
  | x :: xs => (toK x).bind fun k => (toKs xs).map (k :: ·)
end
section
variable {X : Cx} {pins : List (Addr × Obj)} {σ : L2.St} {H : Hp} {s : Shared}
mutual
theorem nk_is (I : Inv X pins σ H s) : ∀ {x : PyData} {v : V} {u : Value} {k : NK}, Dp X.K H v x → RelV v u → toK x = some k → NestedIs s.heap k u
  | _, _, _, _, .non, r, e => by cases e; cases r; exact .none
  | _, _, _, _, .bl b, r, e => by cases e
  | _, _, _, _, .int i, r, e => by
    cases e
    obtain ⟨t, rfl⟩ := r
    exact .int i t
  | _, _, _, _, .str x, r, e => by
    cases e
    obtain ⟨t, rfl⟩ := r
    exact .text x t
  | _, _, _, _, .lst h t, r, e => by cases e
  | .tuple xs, _, _, _, .tup h t, r, e => by
    have e : (toKs xs).map NestedKey.tup = some _ := e
    obtain ⟨ks, hks, rfl⟩ := Option.map_eq_some_iff.mp e
    cases r
    obtain ⟨its, rv, ⟨o, h1, h2, n, h3⟩, _⟩ := I.tuple h
    exact .tup h1 h2 h3 (by rw [List.toList_toArray]; exact nk_all I t rv hks)
theorem nk_all (I : Inv X pins σ H s) : ∀ {xs : List PyData} {vs : List V} {us : List Value} {ks : List NK}, DpAll X.K H vs xs → Vals vs us → toKs xs = some ks → NestedAll s.heap ks us
  | _, _, _, _, .nil, r, e => by cases e; cases r; exact .nil
  | x :: xs, _, _, _, .cons h t, r, e => by
    have e : ((toK x).bind fun k => (toKs xs).map (k :: ·)) = some _ := e
    obtain ⟨k, hk, e⟩ := Option.bind_eq_some_iff.mp e
    obtain ⟨ks, hks, rfl⟩ := Option.map_eq_some_iff.mp e
    cases r with
    | cons a b => exact .cons (nk_is I h a hk) (nk_all I t b hks)
end
end
noncomputable abbrev Ent := NK × Addr × V
section
variable {X : Cx} {pins : List (Addr × Obj)} {σ : L2.St} {H : Hp} {s : Shared} {a b : Addr} {ep : Nat} {es : List Ent} {k : NK}
/-! ### {}, d[k], d[k] = v, d.get(k, x) -/
end
end U

end
section
/-! Dicts with tuple keys: walked, and made by a comprehension. -/
namespace U
open PySem PySem.Spec PyProof.Rows L2 Evl
section
variable {P : Program} {w : World} {K : Fg} {tg : Expr} {d : Addr} {ep : Nat} {es : List Ent}
end
section
variable {X : Cx} {tg e : Expr} {td : TE}
end
section
variable {X : Cx} {pins : List (Addr × Obj)} {σ : L2.St} {H : Hp} {s : Shared}
end
section
variable {X : Cx}
end
end U

end
section
/-! sorted(xs) of data that compare, sorted(d) of a dict with such keys. -/
namespace U
open PySem PySem.Spec PyProof.Rows L2 Evl
section
variable {X : Cx} {pins : List (Addr × Obj)} {σ : L2.St} {H : Hp} {s : Shared}
end
end U

end
section
/-! x in a list or a tuple of data of any depth. -/
namespace U
open PySem PySem.Spec PyProof.Rows L2 Evl
theorem u65 {k : Nat} {A : Around} (r : L2.Room k A) : A.units + 65 < cLine := by have := r.un; omega
section
variable {X : Cx}
noncomputable def rInS (K : Fg) (neg : Bool) : R2 := fun x y H Q => ∃ d c ds, Dp K H x d ∧ Dp K H y c ∧ (c = .list ds ∨ c = .tuple ds) ∧ SeqAt.shaped d = true ∧ SeqAt.shaped (.list ds) = true ∧ Q (.bl (if neg then !ds.any (fun z => PyData.eqv z d) else ds.any fun z => PyData.eqv z d)) H
theorem op_inS (hu : X.A.units + 65 < cLine) : OpR X (compareOp .In) (rInS X.K false) := by
  intro pins s σ H x y v u Q I rx ry h
  obtain ⟨d, c, ds, hd, he, ec, sd, se, q⟩ := h
  obtain ⟨as, r1⟩ := Dp.reads I d x v hd rx
  obtain ⟨bs, r2⟩ := Dp.reads I c y u he ry
  rcases ec with rfl | rfl
  · exact SeqAt.in_list_reads r2 r1 (SeqAt.canLay_of_shaped se) (SeqAt.canLay_of_shaped sd) (room_in_shaped sd hu) ⟨.bl _, H, I, rfl, q⟩
  · exact SeqAt.in_tuple_reads r2 r1 (SeqAt.canLay_of_shaped se) (SeqAt.canLay_of_shaped sd) (room_in_shaped sd hu) ⟨.bl _, H, I, rfl, q⟩
theorem op_notInS (hu : X.A.units + 65 < cLine) : OpR X (compareOp .NotIn) (rInS X.K true) := by
  intro pins s σ H x y v u Q I rx ry h
  obtain ⟨d, c, ds, hd, he, ec, sd, se, q⟩ := h
  obtain ⟨as, r1⟩ := Dp.reads I d x v hd rx
  obtain ⟨bs, r2⟩ := Dp.reads I c y u he ry
  rcases ec with rfl | rfl
  · exact SeqAt.notIn_list_reads r2 r1 (SeqAt.canLay_of_shaped se) (SeqAt.canLay_of_shaped sd) (room_in_shaped sd hu) ⟨.bl _, H, I, rfl, q⟩
  · exact SeqAt.notIn_tuple_reads r2 r1 (SeqAt.canLay_of_shaped se) (SeqAt.canLay_of_shaped sd) (room_in_shaped sd hu) ⟨.bl _, H, I, rfl, q⟩
end
end U

end
section
/-! isinstance of a caught exception of an own class that has a dict. -/
namespace U
open PySem PyProof.Rows L2 Evl
end U

end
section
/-! Own exceptions as values: C(..) where it is not raised. -/
namespace U
open PySem PySem.W PyProof.Rows L2 Evl
section
variable {X : Cx} {e : Expr} {es : List Expr} {ta : TA} {p pos : Pos}
end
section
variable {X : Cx} {e : Expr} {te : TE} {pos : Pos} {n : Str} {pins : List (Addr × Obj)} {σ : St} {H : Hp} {s : Shared}
end
end U

end
section
/-! list comprehensions whose item may raise. -/
namespace U
open PySem PySem.Spec PyProof.Rows L2
/-- behind a comprehension's block; ce: its environment -/
noncomputable def PostX (M : Model) (A : Around) (E : Value → Shared → Prop) (use : Option (Value → Sem Unit)) (Q : Value → Shared → Prop) (acc : Value) (ce : Env) : Result → Shared → Prop
  | .ok f, s' => compPost M A E use Q acc ce.locals (.ok f) s'
  | .error x, s' => ∃ m, s'.heap.Ns ce.locals m ∧ ∀ h', Heap.SameBut ce.locals s'.heap h' → wpAny M A (passOn "comprehension.variables-let-go" x ce : Sem Value) (fun _ _ => False) E { s' with heap := h' }
section
variable {M : Model} {A : Around} {E : Value → Shared → Prop} {s : Shared} {env : Env}
theorem comp_x {e : Expr} {scope : Scope} {pos : Pos} {newAcc first : Sem Value} {g : Comprehension} {gs : List Comprehension} {cl : List (Str × Addr)} {use : Option (Value → Sem Unit)}
    {Q : Value → Shared → Prop}
    (hcl : clausesOf e = g :: gs) (hs : ∀ x, foldedSetIterable g.iter env x = pure x) (hclos : closureFor scope env = pure cl)
    (hkind : scope.kind = .function) (hnames : ∀ x ∈ scope.names, x.2 = .local → scope.names.lookup x.1 = some .local)
    (h : wpAny M A first (fun x s₁ => wpAny M A (pyIter x) (fun it s₂ => wpAny M A newAcc (fun acc s₃ =>
      wpAny M A (newFunctionEnv scope env.globals cl [] env.qual none .none (some env)) (fun cenv s₄ =>
        codeAny M A (.compStart e 0 it acc { cenv with scope := relabel scope env }) (PostX M A E use Q acc { cenv with scope := relabel scope env }) s₄) E s₃) E s₂) E s₁) E s) :
    wpAny M A (comprehension e scope env pos newAcc false first use) Q E s := qt_of (by simp (disch := with_unfolding_all
  unfold comprehension
  rw [hclos, hcl]
  refine wpAny_bind (wpAny_mono h (fun x s₁ h₁ => wpAny_bind (wpAny_standAt (wpAny_bind (wpAny_of_eq (hs x) (wpAny_bind (wpAny_holding (wpAny_mono h₁ (fun it s₂ h₂ =>
    wpAny_standIf (wpAny_bind (wpAny_mono h₂ (fun acc s₃ h₃ => wpAny_bind (wpAny_pure (wpAny_bind (wpAny_mono h₃ (fun cenv s₄ h₄ => ?_) fun _ _ h' => h')))) fun _ _ h' => h')))
      fun _ _ h' => h'))))))) fun _ _ h' => h')
  dsimp only
  have hv : ∀ x ∈ (scope.names.filter fun x => (x.2 == .local || x.2 == .cell) && x.1 != (".0" : Str)).reverse, x.2 = .local →
      Env.kindOf { cenv with scope := relabel scope env } x.1 = some .local := fun x hx hl => lookup_relabel_local (hnames x (List.mem_filter.mp (List.mem_reverse.mp hx)).1 hl)
  have hv' : ∀ x ∈ (scope.names.filter fun x => (x.2 == .local || x.2 == .cell) && x.1 != (".0" : Str)).reverse.drop 1 ++ (scope.names.filter fun x => (x.2 == .local || x.2 == .cell) && x.1 != (".0" : Str)).reverse.take 1,
      x.2 = .local → Env.kindOf { cenv with scope := relabel scope env } x.1 = some .local := fun x hx hl => by
    rcases List.mem_append.mp hx with h1 | h1
    · exact hv x (List.mem_of_mem_drop h1) hl
    · exact hv x (List.mem_of_mem_take h1) hl
  refine wpAny_holding (wpAny_bind (wpAny_attempt (wpAny_holding (wpAny_run (codeAny_mono h₄ fun r s' hr => ?_)))))
  cases r with
  | ok f =>
    have hr : compPost M A E use Q acc cenv.locals (.ok f) s' := hr
    cases use with
    | none =>
      obtain ⟨m, hn, hr⟩ := hr
      exact wpAny_bind (wpAny_holding (wpAny_comp_letGo (cenv := { cenv with scope := relabel scope env }) hkind _ s' m hv hn fun h' m' _ hs' => wpAny_pure (hr h' hs')))
    | some u =>
      refine wpAny_bind (wpAny_rule (wpAny_bind (wpAny_holding (wpAny_mono hr (fun _ s'' hr' => ?_) fun _ _ h' => h'))))
      obtain ⟨m, hn, hr'⟩ := hr'
      exact wpAny_bind (wpAny_comp_letGo (cenv := { cenv with scope := relabel scope env }) hkind _ s'' m hv' hn fun h' m' _ hs' => wpAny_pure (hr' h' hs'))
  | error x =>
    obtain ⟨m, hn, hr⟩ := hr
    exact wpAny_bind (wpAny_holding (wpAny_comp_letGo (cenv := { cenv with scope := relabel scope env }) hkind _ s' m hv hn fun h' m' _ hs' => wpAny_mono (hr h' hs') (fun _ _ f => f.elim) fun _ _ y => y))
  ) only [↓qt_eq])
end
/-- an exception that flies out of X, not yet noted there -/
noncomputable def XFly (X : Cx) (E : XK) (u : Value) (s' : Shared) : Prop :=
  ∃ (a : Addr) (B : Heap) (sI : Shared) (pins : List (Addr × Obj)) (σ : St) (H : Hp) (cls : Value) (d : Option Addr),
    u = .ref a ∧ Inv X pins σ H sI ∧ (∀ b o, sI.heap.get? b = some o → b ∉ frs X.stack → B.get? b = some o) ∧ sI.heap.UpToSlots s'.heap ∧
      HandSPX.FlyingZ B X.stack a (Zc cls d) s'.heap ∧ H a = none ∧ s'.os = sI.os ∧ AllBare s'.gens ∧ E cls d H
section
variable {X : Cx} {pins : List (Addr × Obj)} {σ : St} {H : Hp} {sI s s' : Shared} {B : Heap} {W : WX} {E : XK}
theorem XFly.of_call (I : Inv X pins σ H s) {u : Value} (c : CX X.prog X.w X.stack H s E u s') : XFly X E u s' := qt_of (by simp (disch := with_unfolding_all
  obtain ⟨a, B, H', cls, d, rfl, fl, hok, ub, na, os, ag, hE⟩ := c
  obtain ⟨G, g1, g2⟩ := restrict s'.heap fun b => (B.get? b).isSome || decide (b ∈ frs X.stack)
  have st : B.StaysIn s'.heap := fl.1
  have gB : ∀ b o, B.get? b = some o → G.get? b = some o := fun b o e => by
    rw [g1 b (by simp [e])]
    exact st b o e
  have gF : ∀ b, b ∈ frs X.stack → G.get? b = s'.heap.get? b := fun b hb => g1 b (by simp [hb])
  have og : ∀ b o, G.get? b = some o → s'.heap.get? b = some o ∧ ((B.get? b).isSome = true ∨ b ∈ frs X.stack) := fun b o e => by
    cases q : ((B.get? b).isSome || decide (b ∈ frs X.stack)) with
    | false => rw [g2 b q] at e; cases e
    | true =>
      rw [g1 b q] at e
      exact ⟨e, by simpa [Bool.or_eq_true] using q⟩
  refine ⟨a, B, { s with heap := G, gens := s'.gens, drawn := s'.drawn, toks := s'.toks }, pins, σ, H', cls, d, rfl, ?_, fun b o e hb => ?_, Heap.UpToSlots.of_keeps fun b o e => (og b o e).1, fl, na, os, ag, hE⟩
  · refine I.call (ch := []) ⟨fun b o e n hb _ => gB b o (ub.keep b o e n hb), fun b o e n hb _ => ?_, fun b o e n _ => ub.free b o e n, fun b o e _ => ?_, ub.tups, ub.frzs, ub.tbls⟩ (hok.kept gB) ag (fun _ z => nomatch z)
    · obtain ⟨sl, q⟩ := ub.slot b o e hb
      exact ⟨sl, by rw [gF b hb]; exact q⟩
    · by_cases hb : b ∈ frs X.stack
      · obtain ⟨sl, q⟩ := ub.slot b o e hb
        exact ⟨_, by rw [gF b hb]; exact q⟩
      · obtain ⟨o', q⟩ := ub.there b o e hb
        exact ⟨o', gB b o' q⟩
  · obtain ⟨e', h⟩ := og b o e
    rcases h with h | h
    · obtain ⟨o', q⟩ := Option.isSome_iff_exists.mp h
      have z := st b o' q
      rw [e'] at z; cases z
      exact q
    · exact absurd h hb
  ) only [↓qt_eq])
end
/-- the block's context, its item's calls let out as E -/
noncomputable abbrev blkX (X : Cx) (s : Shared) (H : Hp) (scope : Scope) (cenv : Env) (fp : List Addr) (E : XK) : Cx := { X.blk s H scope cenv fp with xe := XFly (X.blk s H scope cenv fp) E }
theorem noteFrame_eq {e : Value} {a b : Env} (h : a.frame = b.frame) : noteFrame e a = noteFrame e b := by
  unfold noteFrame PySem.frameOf
  rw [h]
section
variable {X : Cx} {pins : List (Addr × Obj)} {σ : St} {H3 : Hp} {s3 s' : Shared} {W : WX}
/-- .. passes to X -/
theorem noted_x {scope : Scope} {ce : Env} {fp : List Addr} {use : Option (Value → Sem Unit)} {Qf : Value → Shared → Prop} {acc u : Value} (hs : X.stack = X.env :: X.outer) (hf : X.env.frame = some X.env.locals) (tk : Takes X W)
    (I3 : Inv X pins σ H3 s3) (f3 : ∀ b ∈ fp, FpOk X pins H3 b) (cL : ce.locals = s3.heap.objs.size) (cF : ce.frame = X.env.frame)
    (x : XFly (X.blk s3 H3 scope ce fp) (fun c d H => W c d σ H) u s') :
    notedBy (model X.prog X.w) X.A ce (fun e s'' => PostX (model X.prog X.w) X.A X.xe use Qf acc ce (.error e) s'') u s' := qt_of (by simp (disch := with_unfolding_all
  obtain ⟨a, B, sI, pb, σb, H', cls, d, rfl, I6, nb, up, fl, na, os, ag, w⟩ := x
  have hfr : X.A.frames = some (X.env :: X.outer) := by rw [I3.ok.frames, hs]
  have hC3 : s3.heap.get? ce.locals = none := by
    rw [cL]
    cases e : s3.heap.get? s3.heap.objs.size with
    | none => rfl
    | some o => exact absurd (Heap.lt_size e) (Nat.lt_irrefl _)
  have ns3 : ∀ {b o}, s3.heap.get? b = some o → b ≠ ce.locals := fun {b o} e z => by rw [z, hC3] at e; cases e
  have hCH : H' ce.locals = none := I6.free
  have hCf : ce.locals ∉ frs X.stack := fun hm => by
    obtain ⟨_, o, e, _⟩ := I3.stack.mem hm
    exact ns3 e rfl
  -- the locals' dict is hidden
  obtain ⟨G, g1, g2⟩ := restrict sI.heap fun b => decide (b ≠ ce.locals)
  obtain ⟨B', b1, b2⟩ := restrict B fun b => decide (b ≠ ce.locals)
  have gS : ∀ {b}, b ≠ ce.locals → G.get? b = sI.heap.get? b := fun {b} h => g1 b (by simpa using h)
  have gO : ∀ {b o}, G.get? b = some o → b ≠ ce.locals ∧ sI.heap.get? b = some o := fun {b o} e => by
    by_cases z : b = ce.locals
    · rw [g2 b (by simpa using z)] at e; cases e
    · exact ⟨z, by rw [← gS z]; exact e⟩
  have bS : ∀ {b}, b ≠ ce.locals → B'.get? b = B.get? b := fun {b} h => b1 b (by simpa using h)
  have bO : ∀ {b o}, B'.get? b = some o → b ≠ ce.locals ∧ B.get? b = some o := fun {b o} e => by
    by_cases z : b = ce.locals
    · rw [b2 b (by simpa using z)] at e; cases e
    · exact ⟨z, by rw [← bS z]; exact e⟩
  have bN : ∀ {b}, B.get? b = none → B'.get? b = none := fun {b} h => by
    cases e : B'.get? b with
    | none => rfl
    | some o => rw [(bO e).2] at h; cases h
  have I7 : Inv X pins σ H' { sI with heap := G } := by
    refine I3.call' (ch := fp) I6.os ?_ (fun b v q => ?_) I6.bare fun b hb => ⟨(f3 b hb).2.2.2.1, (f3 b hb).2.1, (f3 b hb).2.2.2.2.1, (f3 b hb).2.2.2.2.2⟩
    · have U := I6.base
      exact ⟨fun b o q n hb hx => (gS (ns3 q)).trans (U.keep b o q n hb hx), fun b o q n hb hx => by
        obtain ⟨sl, r⟩ := U.slot b o q n hb hx
        exact ⟨sl, (gS (ns3 q)).trans r⟩, U.free, fun b o q hx => by
        obtain ⟨o', r⟩ := U.there b o q hx
        exact ⟨o', (gS (ns3 q)).trans r⟩, U.tups, U.frzs, U.tbls⟩
    · refine (I6.hok b v q).stay (fun c v' hc r => (gS ?_).trans r) (fun _ q => q) fun _ _ q => q
      intro z
      rcases hc with z' | z'
      · rw [z] at z'; rw [← z', hCH] at q; cases q
      · rw [z] at z'; rw [hCH] at z'; cases z'
  have nb' : ∀ b o, G.get? b = some o → b ∉ frs X.stack → B'.get? b = some o := fun b o e hb => by
    obtain ⟨z, e⟩ := gO e
    exact (bS z).trans (nb b o e hb)
  have upG : G.UpToSlots s'.heap := fun b o e n => up b o (gO e).2 n
  have fl' : HandSPX.FlyingZ B' (X.env :: X.outer) a (Zc cls d) s'.heap := by
    have fl : HandSPX.FlyingZ B X.stack a (Zc cls d) s'.heap := fl
    rw [hs] at fl
    obtain ⟨f1, f2, f3, oe, vs, T, oT, ts, t1, t2, t3, t4, t5, t6⟩ := fl
    refine ⟨fun b o e => f1 b o (bO e).2, bN f2, funFrames_none f3 fun L hL => ?_, oe, vs, T, oT, ts, t1, t2, t3, t4, bN t5, t6⟩
    have ff := f3
    obtain ⟨e, he, q⟩ := List.mem_filterMap.mp hL
    have : ∀ {l : List Env}, s'.heap.FunFrames B l → ∀ L ∈ frs l, B.get? L = none := fun {l} => by
      induction l with
      | nil => intro _ L hL; cases hL
      | cons e l ih =>
        rintro ⟨_, ⟨L0, o, hf, hn, _⟩, hr⟩ L hL
        obtain ⟨e', he', q'⟩ := List.mem_filterMap.mp hL
        rcases List.mem_cons.mp he' with rfl | h
        · rw [hf] at q'; cases q'; exact hn
        · exact ih hr L (List.mem_filterMap.mpr ⟨e', h, q'⟩)
    exact bN (this f3 L hL)
  show wpAny _ _ (noteFrame (.ref a) ce) _ _ _
  rw [noteFrame_eq (b := X.env) cF]
  refine HandSPX.looks_onZ Zc.steady hfr hf fl' fun h1 held up1 => ?_
  -- the variables are let go
  have ns1 : ∃ m, h1.Ns ce.locals m := by
    obtain ⟨m, hn, _⟩ := I6.loc
    exact ⟨m, (up.trans up1).ns hn⟩
  obtain ⟨m, hn⟩ := ns1
  refine ⟨m, hn, fun h2 sb => ?_⟩
  obtain ⟨oc, esc, epc, hoc, hdc, _⟩ := hn
  have held2 : HandSPX.HeldZ B' (X.env :: X.outer) a (Zc cls d) X.env.locals h2 := by
    obtain ⟨q1, q2, q3, oe, vs, T, oT, ts, t1, t2, t3, t4, t5, t6, t7, t8, t9⟩ := held
    have na : a ≠ ce.locals := fun z => by
      rw [z, hoc] at t1; cases t1
      rw [hdc] at t3; cases t3
    have nT : T ≠ ce.locals := fun z => by
      rw [z, hoc] at t7; cases t7
      rw [hdc] at t8; cases t8
    refine ⟨fun b o e => (sb.2 b (bO e).1).trans (q1 b o e), q2, ?_, oe, vs, T, oT, ts, (sb.2 _ na).trans t1, t2, t3, t4, t5, t6, (sb.2 _ nT).trans t7, t8, t9⟩
    have go : ∀ {l : List Env}, (∀ b ∈ frs l, b ≠ ce.locals) → h1.FunFrames B' l → h2.FunFrames B' l := fun {l} => by
      induction l with
      | nil => intro _ _; trivial
      | cons e l ih =>
        rintro hl ⟨hk, ⟨L0, o, hf, hn, ho, hd⟩, hr⟩
        have nL : L0 ≠ ce.locals := hl L0 (List.mem_filterMap.mpr ⟨e, List.mem_cons_self, hf⟩)
        exact ⟨hk, ⟨L0, o, hf, hn, (sb.2 _ nL).trans ho, hd⟩, ih (fun b hb => hl b (by
          obtain ⟨e', he', q⟩ := List.mem_filterMap.mp hb
          exact List.mem_filterMap.mpr ⟨e', List.mem_cons_of_mem _ he', q⟩)) hr⟩
    exact go (fun b hb z => hCf (by rw [hs, ← z]; exact hb)) q3
  have up2 : G.UpToSlots h2 := fun b o e n => by
    obtain ⟨sl, q⟩ := (upG.trans up1) b o e n
    exact ⟨sl, (sb.2 b (gO e).1).trans q⟩
  unfold PySem.passOn
  obtain ⟨q1, q2, q3, oe, vs, T, oT, ts, t1, t2, t3, t4, t5, t6, t7, t8, t9⟩ := held2
  refine wpAny_bind (wpAny_field t1 t3 t4 ?_)
  rw [if_neg (show ¬ ((Value.ref T == Value.none) = true) from by simp)]
  rw [cF, hf]
  refine wpAny_bind (HandSPX.setFlight_onZ (Z := Zc cls d) ⟨q1, q2, q3, oe, vs, T, oT, ts, t1, t2, t3, t4, t5, t6, t7, t8, t9⟩ fun h3 held3 up3 => ?_)
  refine wpAny_throw ?_
  refine tk _ _ ⟨a, B', { sI with heap := G }, pins, σ, H', cls, d, rfl, I7, nb', up2.trans up3, .inr (.inr (by rw [hs]; exact held3)), na, os, ag, w⟩
  ) only [↓qt_eq])
end
/-- [item for .. in ..], whose item may raise -/
noncomputable def tLcX (wi : TI) (g : TG) (tt : TT) (te : WX → TE) (vs : List Nat) (W : WX) : TE := fun σ H Q => tLc wi g tt (te fun c d _ H => W c d σ H) vs σ H Q
theorem xb_pass {X : Cx} {E : XK} (σ : St) : PassesAt (L2.CX X.prog X.w) { X with xe := XFly X E } σ E := fun pins H s e s' I c => XFly.of_call (E := E) (X := X) (by
  have J := I.wish X.xe
  exact J) c
section
variable {X : Cx}
theorem lcx_core {pins : List (Addr × Obj)} {s : Shared} {σ : St} {H : Hp} {Q : VK} {elt tg iter : Expr} {ifs : List Expr} {scope : Scope} {own : List (Str × Nat)} {pos pos' : Pos} {wi : TI} {g : TG} {tt : TT} {te : WX → TE} {W : WX} {use : Option (Value → Sem Unit)} {Qf : Value → Shared → Prop}
    (hst : X.stack = X.env :: X.outer) (hf : X.env.frame = some X.env.locals) (tk : Takes X W)
    (hc : X.calm = true) (hN : X.N.Nodup) (I : Inv X pins σ H s) (hi : PI X tg iter wi) (ok : BlkOk X.N X.env.scope scope own)
    (hg : ∀ (s : Shared) (H : Hp) (C : Addr) (cl : List (Str × Addr)) (fp : List Addr), PG (X.blk s H scope (compEnvC scope cl C X.env) fp) tg g) (ht : ∀ (s : Shared) (H : Hp) (C : Addr) (cl : List (Str × Addr)) (fp : List Addr), PTs (X.blk s H scope (compEnvC scope cl C X.env) fp) ifs tt)
    (he : ∀ (E : XK) (s : Shared) (H : Hp) (C : Addr) (cl : List (Str × Addr)) (fp : List Addr), (∀ σ', PassesAt (L2.CX X.prog X.w) (blkX X s H scope (compEnvC scope cl C X.env) fp E) σ' E) → PE (blkX X s H scope (compEnvC scope cl C X.env) fp E) elt (te fun c d _ H => E c d H))
    (hs : ∀ x, foldedSetIterable iter X.env x = pure x)
    (h : tLcX wi g tt te (own.map (·.2)) W σ H Q)
    (hRR : ∀ D C s' m H', Inv X pins σ H' s' → Q (.ref D) H' → s'.heap.Ns C m → FpOk X pins H' C → compPost (model X.prog X.w) X.A X.xe use Qf (.ref D) C (.ok .next) s') :
    wpAny (model X.prog X.w) X.A (comprehension (.ListComp elt [⟨tg, iter, ifs, 0⟩] scope pos) scope X.env pos' (newList []) false (eval iter X.env) use) Qf X.xe s := qt_of (by simp (disch := with_unfolding_all
  have hfree : ∀ y ∈ scope.names, y.2 = .free → ∃ c, X.env.cells.lookup y.1 = some c := fun y hy e => by
    rcases ok.free y hy e with k | k
    · exact I.ok.has _ (.inl k)
    · exact I.ok.has _ (.inr k)
  refine comp_x (use := use) rfl hs (closure_ok hfree) ok.kind (fun y hy e => by rw [ok.uniq y hy, e])
    (thn (hi.run pins s σ H _ I h) fun xv s1 hx => thn hx fun itv s2 h2 => ?_)
  obtain ⟨it, fp, tn, J, H2, e, I2, T, st2, f2, q⟩ := h2
  subst e
  refine wpAny_newObj_type (newEnv_comp ?_) (by show 0 ≤ sizeLine; decide)
  generalize hD : s2.heap.objs.size = D
  have hDn : H2 D = none := I2.hok.fresh (Nat.le_of_eq hD)
  obtain ⟨Wt, ⟨m0, w0⟩, turn⟩ := q D hDn
  generalize hs3 : ({ s2 with heap := s2.heap.push { cls := .type "list", data := .seq ([] : List Value).toArray } } : Shared) = s3
  have I3 : Inv X pins σ (upd H2 D (.lst [])) s3 := by
    rw [← hs3]
    refine I2.laid (t' := s2.toks) (fun b o e => Heap.get?_push_of_some _ e) (Nat.le_of_eq hD) ⟨Nat.zero_le _, [], 0, .nil, ?_⟩
    rw [← hD]
    exact Heap.get?_push_size _ rfl
  have h3 : s3.heap = s2.heap.push { cls := .type "list", data := .seq ([] : List Value).toArray } := by rw [← hs3]
  have sz : ∀ b ∈ fp, b < s2.heap.objs.size := fun b hb => by
    obtain ⟨o, e, _⟩ := T.obj _ _ st2 b hb
    exact Heap.lt_size e
  have f3 : ∀ b ∈ fp, FpOk X pins (upd H2 D (.lst [])) b ∧ b < s3.heap.objs.size := fun b hb => by
    have hlt := sz b hb
    refine ⟨⟨?_, (f2 b hb).2⟩, by rw [h3, Heap.size_push]; exact Nat.lt_succ_of_lt hlt⟩
    rw [upd_ne (by rw [← hD]; exact Nat.ne_of_lt hlt)]
    exact (f2 b hb).1
  have st3 : tn 0 s3.heap := T.keep _ _ _ st2 fun b _ o e => by rw [h3]; exact Heap.get?_push_of_some _ e
  have I4 := block_start I3 ok hN f3
  have pg := hg s3 (upd H2 D (.lst [])) s3.heap.objs.size (cellsFrom (s3.heap.objs.size + 1) scope.names (cloFrom X.env.cells scope.names [])) fp
  have pt := ht s3 (upd H2 D (.lst [])) s3.heap.objs.size (cellsFrom (s3.heap.objs.size + 1) scope.names (cloFrom X.env.cells scope.names [])) fp
  have pe := he (fun c d H => W c d σ H) s3 (upd H2 D (.lst [])) s3.heap.objs.size (cellsFrom (s3.heap.objs.size + 1) scope.names (cloFrom X.env.cells scope.names [])) fp fun σ' => xb_pass (X := X.blk s3 (upd H2 D (.lst [])) scope (compEnvC scope (cellsFrom (s3.heap.objs.size + 1) scope.names (cloFrom X.env.cells scope.names [])) s3.heap.objs.size X.env) fp) σ'
  show codeAny _ _ (.compStart (.ListComp elt [⟨tg, iter, ifs, 0⟩] scope pos) 0 (.ref it) (.ref D) (compEnvC scope (cellsFrom (s3.heap.objs.size + 1) scope.names (cloFrom X.env.cells scope.names [])) s3.heap.objs.size X.env)) (PostX (model X.prog X.w) X.A X.xe use Qf (.ref D) (compEnvC scope (cellsFrom (s3.heap.objs.size + 1) scope.names (cloFrom X.env.cells scope.names [])) s3.heap.objs.size X.env)) { s3 with heap := pushCells (s3.heap.push { cls := .type "dict", data := .dict #[] }) scope.names }
  have nfp : ∀ b ∈ fp, (upd H2 D (.lst [])) b = none := fun b hb => (f3 b hb).1.1
  generalize hce : compEnvC scope (cellsFrom (s3.heap.objs.size + 1) scope.names (cloFrom X.env.cells scope.names [])) s3.heap.objs.size X.env = ce at I4 pg pt pe ⊢
  have cL : ce.locals = s3.heap.objs.size := by subst hce; rfl
  have cF : ce.frame = X.env.frame := by subst hce; rfl
  generalize hH3 : upd H2 D (.lst []) = H3 at I3 I4 pg pt pe w0 nfp f3
  generalize hs4 : ({ s3 with heap := pushCells (s3.heap.push { cls := .type "dict", data := .dict #[] }) scope.names } : Shared) = s4 at I4 ⊢
  have st4 : tn 0 s4.heap := T.keep _ _ _ st3 fun b _ o e => by rw [← hs4]; exact pushCells_keeps _ _ _ _ (Heap.get?_push_of_some _ e)
  have stat : ∀ {σ' : St} {H' : Hp} {s' : Shared}, Inv (X.blk s3 H3 scope ce fp) [] σ' H' s' → (∀ b ∈ fp, H' b = none) → ∀ b ∈ fp, FpOk (X.blk s3 H3 scope ce fp) [] H' b := fun {σ' H' s'} I' hn b hb =>
    ⟨hn b hb, (I'.ok.exf b hb).1, I'.ok.exfs b hb, .inl hb, fun x c e => (I'.ok.exf b hb).2 x c e, fun p hp => absurd (show p ∈ ([] : List (Addr × Obj)) ++ [] from hp) (by simp)⟩
  have loop : codeAny (model X.prog X.w) X.A (.compLoop (.ListComp elt [⟨tg, iter, ifs, 0⟩] scope pos) 0 (.ref it) (.ref D) ce) (PostX (model X.prog X.w) X.A X.xe use Qf (.ref D) ce) s4 := by
    refine compLoop_any (fun n s' => ∃ i H', Inv (X.blk s3 H3 scope ce fp) [] (wipe σ (own.map (·.2))) H' s' ∧ tn i s'.heap ∧ (∀ b ∈ fp, H' b = none) ∧ Wt i n H') ?_ m0 ⟨0, H3, I4, st4, nfp, w0⟩
    rintro n s5 ⟨i, H5, I5, st5, n5, w5⟩
    rcases turn i n H5 w5 with ⟨stop, qq⟩ | ⟨go, Nx, hNx, step⟩
    · have td := T.done (X.blk s3 H3 scope ce fp) rfl rfl rfl hc i [] s5 _ H5 (fun _ _ => False) I5 (stat I5 n5) st5 stop
      refine thnF td fun r s6 ⟨hr, I6⟩ => ?_
      subst hr
      have I7 : Inv X pins σ H5 s6 := I3.call' (ch := fp) I6.os I6.base I6.hok I6.bare fun b hb => ⟨(f3 b hb).1.2.2.2.1, (f3 b hb).1.2.1, (f3 b hb).1.2.2.2.2.1, (f3 b hb).1.2.2.2.2.2⟩
      have nC : H5 s3.heap.objs.size = none := by
        have z : H5 ce.locals = none := I6.free
        rw [cL] at z
        exact z
      obtain ⟨m, hn, _⟩ := I6.loc
      have hn : s6.heap.Ns ce.locals m := hn
      show compPost _ _ _ _ _ _ ce.locals _ _
      rw [cL] at hn ⊢
      exact hRR D s3.heap.objs.size s6 m H5 I7 qq hn (I3.fpOk (Nat.le_refl _) nC)
    · have ti := T.item (X.blk s3 H3 scope ce fp) rfl rfl rfl hc i [] s5 _ H5 (fun _ _ => False) I5 (stat I5 n5) st5 go
      refine thnF ti fun r s6 ⟨u, hr, h6⟩ => ?_
      subst hr
      refine thnF h6 fun _ s7 ⟨x, H7, I7, r7, y7, st7, n7⟩ => ?_
      have I7' := I7.pinned (stat I7 n7) (T.obj _ _ st7)
      refine thnF (pg.run _ s7 _ H7 x u _ I7' r7 (step x H7 y7)) fun _ s8 ⟨σ8, H8, I8, hw8, q8⟩ => ?_
      refine thnF (pt.run _ s8 σ8 H8 _ I8 q8) fun b s9 ⟨H9, I9, q9⟩ => ?_
      have fin : ∀ {s' : Shared} {H' : Hp}, Inv (X.blk s3 H3 scope ce fp) ([] ++ pinsAt fp s7.heap) σ8 H' s' → Nx H' → ∃ m, m < n ∧ ∃ i H', Inv (X.blk s3 H3 scope ce fp) [] (wipe σ (own.map (·.2))) H' s' ∧ tn i s'.heap ∧ (∀ b ∈ fp, H' b = none) ∧ Wt i m H' := fun {s' H'} I' nx => by
        obtain ⟨m', hm, w'⟩ := hNx H' nx
        have pin' : ∀ b ∈ fp, ∀ o, s7.heap.get? b = some o → s'.heap.get? b = some o ∧ H' b = none := fun b hb o e =>
          let z := I'.pin (b, o) (List.mem_append_right _ (List.mem_append_right _ (mem_pinsAt hb e)))
          ⟨z.1, z.2.1⟩
        have hl : (wipe σ (own.map (·.2))).length = σ8.length := by rw [← hw8, wipe_length]
        refine ⟨m', hm, i + 1, H', (I'.unpinned (pins := [])).weak hl (fun j v e => ?_), T.keep _ _ _ st7 fun b hb o e => (pin' b hb o e).1, fun b hb => ?_, w'⟩
        · rw [← hw8] at e
          exact (wipe_some e).1
        · obtain ⟨o, e, _⟩ := T.obj _ _ st7 b hb
          exact (pin' b hb o e).2
      cases b with
      | false =>
        simp only [Bool.false_eq_true, if_false] at q9 ⊢
        exact fin I9 q9
      | true =>
        simp only [if_true] at q9 ⊢
        refine wpAny_mono (pe.run _ s9 σ8 H9 _ (I9.wish _) q9) (fun z s10 ⟨yv, H10, I10, r10, acc, hD10, hz10, nx⟩ => ?_) fun e s10 x => noted_x hst hf tk I3 (fun b hb => (f3 b hb).1) cL cF x
        exact app_ok (X := X.blk s3 H3 scope ce fp) I10.unwish hD10 hz10 r10 fun s11 I11 => fin I11 nx
  exact codeAny_compStart_list loop (T.self X.A 0 _ _ _ st4 loop)
  ) only [↓qt_eq])
theorem ps_setLcX {i : Nat} {y : Str} {py : Pos} {elt tg iter : Expr} {ifs : List Expr} {scope : Scope} {own : List (Str × Nat)} {pos spos : Pos} {wi : TI} {g : TG} {tt : TT} {te : WX → TE} {W : WX} (hst : X.stack = X.env :: X.outer) (hf : X.env.frame = some X.env.locals) (tk : Takes X W) (hc : X.calm = true) (hN : X.N.Nodup) (hy : X.N[i]? = some y) (hyl : X.env.scope.names.lookup y = some .local)
    (hsw : swapsWith (.ListComp elt [⟨tg, iter, ifs, 0⟩] scope pos) (some (.Name y py)) spos.line X.env = pure true) (hi : PI X tg iter wi) (ok : BlkOk X.N X.env.scope scope own)
    (hg : ∀ (s : Shared) (H : Hp) (C : Addr) (cl : List (Str × Addr)) (fp : List Addr), PG (X.blk s H scope (compEnvC scope cl C X.env) fp) tg g) (ht : ∀ (s : Shared) (H : Hp) (C : Addr) (cl : List (Str × Addr)) (fp : List Addr), PTs (X.blk s H scope (compEnvC scope cl C X.env) fp) ifs tt)
    (he : ∀ (E : XK) (s : Shared) (H : Hp) (C : Addr) (cl : List (Str × Addr)) (fp : List Addr), (∀ σ', PassesAt (L2.CX X.prog X.w) (blkX X s H scope (compEnvC scope cl C X.env) fp E) σ' E) → PE (blkX X s H scope (compEnvC scope cl C X.env) fp E) elt (te fun c d _ H => E c d H))
    (hs : ∀ x, foldedSetIterable iter X.env x = pure x := by intro _; rfl) :
    PS X (.Assign [.Name y py] (.ListComp elt [⟨tg, iter, ifs, 0⟩] scope pos) spos) (tAsg (tLcX wi g tt te (own.map (·.2)) W) (gName i)) := by
  refine ⟨fun pins s σ H D I h => ?_⟩
  rw [exec_Assign_Name_used _ _ _ _ hsw]
  refine wpAny_bind (wpAny_standAt (wpAny_bind ?_))
  show wpAny _ X.A (do let _ ← comprehension (.ListComp elt [⟨tg, iter, ifs, 0⟩] scope pos) scope X.env (firstIterPos [⟨tg, iter, ifs, 0⟩] pos) (newList []) false (eval iter X.env) (some (assign (.Name y py) X.env))) _ _ s
  have h : tLcX wi g tt te (own.map (·.2)) W σ H (fun x H1 => gName i x σ H1 D.nx) := h
  refine wpAny_bind (thn (lcx_core (Qf := fun _ s' => SP X pins D .next s') hst hf tk hc hN I hi ok hg ht he hs h fun L C s' m H' I' q hn f => ?_) fun _ s' hq => wpAny_pure (wpAny_pure hq))
  show wpAny _ _ (assign (.Name y py) X.env (.ref L)) _ _ _
  refine wpAny_assign_Name (store_ok2 (v := V.ref L) I' hN hy (.inl hyl) rfl (fun s2 I2 ⟨a, sb, ha⟩ => ?_) (.inr hyl))
  obtain ⟨f0, f1, f2, f3, f4, f5⟩ := f
  have haC : C ≠ a := by
    rcases ha with z | z
    · rw [z]; exact f1
    · exact fun e => f4 y a z e.symm
  refine ⟨m, hn.sameBut sb haC, fun h3 sb3 => ?_⟩
  exact ⟨_, H', I2.turned (t' := s2.toks) (fun b o hb e => (sb3.2 b hb).trans e) f0 f1 f3 f4 f5, q⟩
end
end U

end
section
/-! Own exceptions of two fields: a name and a word; a word and a place. -/
namespace U
open PySem PySem.W PyProof.Rows L2 Evl
/-- self.name = name; self.word = word -/
noncomputable abbrev gMs : List V → Option (List (Str × V)) := fun ws => match ws with
  | [n, v] => some [("word", v), ("name", n)]
  | _ => none
/-- a name, and a word that is always the same -/
noncomputable abbrev gNw (w : Str) : List V → Option (List (Str × V)) := fun ws => match ws with
  | [n] => some [("word", .str w), ("name", n)]
  | _ => none
noncomputable def t_Ms (K : Fg) : TS := tSeq (tOx K "name" (tVar 0) (tVar 1)) (tOx K "word" (tVar 0) (tVar 2))
noncomputable def t_Nw (K : Fg) (w : Str) : TS := tDrop (tCall (spIn K ["name", "word"] gMs) [] E0 (tCons (tVar 0) (tCons (tVar 1) (tCons (tC (V.str w)) tNil))))
section
variable {Pg : Program} {w : World} {K : Fg} {mg : Str → Option Value} {base : Heap} {cs : Cs}
theorem gms_len {ws : List V} {fs : List (Str × V)} (h : gMs ws = some fs) : ∃ n v, ws = [n, v] ∧ fs = [(("word" : Str), v), (("name" : Str), n)] := by
  rcases ws with _ | ⟨n, _ | ⟨v, _ | ⟨x, r⟩⟩⟩ <;> cases h
  exact ⟨n, v, rfl, rfl⟩
theorem gone_len {ws : List V} {fs : List (Str × V)} {f : V → List (Str × V)} {g : List V → Option (List (Str × V))} (e : ∀ v, g [v] = some (f v)) (e0 : g [] = none) (e2 : ∀ a b r, g (a :: b :: r) = none) (h : g ws = some fs) : ∃ v, ws = [v] ∧ fs = f v := by
  rcases ws with _ | ⟨n, _ | ⟨v, r⟩⟩
  · rw [e0] at h; cases h
  · rw [e] at h; cases h; exact ⟨n, rfl, rfl⟩
  · rw [e2] at h; cases h
theorem okMs {st : Stmt} {qual : Str} {dvs : List V} {f : Addr} {fd : FuncData} {k : Nat} (F : FunD K "__init__" qual (defArgs st) (defBody st) (defScope st) dvs [] f fd) (S : FnScope ["self", "name", "word"] ["self", "name", "word"] (defScope st))
    (hb : ∀ (cdv : Value) (A : Around) (outer : List Env) (sh : Shared) (H : Hp) (E : XK), PSs (cxOf CX0 Pg w K mg base ["self", "name", "word"] qual (defScope st) f cdv A outer sh H E) (defBody st) (t_Ms K)) : FnOk Pg w K mg base CX0 (k + 1) f fd ["self", "name", "word"] (spIn K ["name", "word"] gMs) := qt_of (by simp (disch := with_unfolding_all
  refine F.ok S (fun vs H Q E h => ?_) (fun cdv A outer sh H vs Q E hr h => ?_)
  · obtain ⟨a, C, ws, fs, rfl, _, _, _, hg, _⟩ := h
    obtain ⟨n, v, rfl, rfl⟩ := gms_len hg
    rfl
  · obtain ⟨a, C, ws, fs, rfl, ha, ox, hn, hg, q⟩ := h
    obtain ⟨n, v, rfl, rfl⟩ := gms_len hg
    refine ⟨_, hb cdv A outer sh H E, ?_⟩
    refine ⟨n, rfl, .ref a, rfl, a, C, rfl, ox, hn _ (by simp), .inl ⟨ha, fun d hd hda => ?_⟩⟩
    refine ⟨v, rfl, .ref a, rfl, a, C, rfl, ox, hn _ (by simp), .inr ⟨d, [("name", n)], upd_same, by rw [upd_ne hda, upd_same], by show 1 ≤ 900; decide, ?_⟩⟩
    exact q d _ hd (by rw [upd_ne (Ne.symm hda), upd_same]) upd_same fun b h1 h2 => by rw [upd_ne h2, upd_ne h1, upd_ne h2]
  ) only [↓qt_eq])
theorem okNw (wd : Str) {st : Stmt} {qual : Str} {f : Addr} {fd : FuncData} {k : Nat} (F : Fun K "__init__" qual st f fd) (S : FnScope ["self", "name"] ["self", "name"] (defScope st))
    (hb : ∀ (cdv : Value) (A : Around) (outer : List Env) (sh : Shared) (H : Hp) (E : XK), Room k (A.deeper (envOfC qual (defScope st) sh.heap.objs.size f cdv)) → PSs (cxOf CX0 Pg w K mg base ["self", "name"] qual (defScope st) f cdv A outer sh H E).nox (defBody st) (t_Nw K wd)) : FnOk Pg w K mg base CX0 (k + 1) f fd ["self", "name"] (spIn K ["name", "word"] (gNw wd)) := qt_of (by simp (disch := with_unfolding_all
  have key : ∀ {ws fs}, gNw wd ws = some fs → ∃ v, ws = [v] ∧ fs = [(("word" : Str), V.str wd), (("name" : Str), v)] := fun h => gone_len (fun v => rfl) rfl (fun _ _ _ => rfl) h
  refine F.ok S (fun vs H Q E h => ?_) (fun cdv A outer sh H vs Q E hr h => ?_)
  · obtain ⟨a, C, ws, fs, rfl, _, _, _, hg, _⟩ := h
    obtain ⟨v, rfl, rfl⟩ := key hg
    rfl
  · obtain ⟨a, C, ws, fs, rfl, ha, ox, hn, hg, q⟩ := h
    obtain ⟨v, rfl, rfl⟩ := key hg
    refine ⟨_, hb cdv A outer sh H E hr, ?_⟩
    exact ⟨.ref a, rfl, v, rfl, a, C, [v, .str wd], _, rfl, ha, ox, hn, rfl, fun d H' h1 h2 h3 h4 => q d H' h1 h2 h3 h4⟩
  ) only [↓qt_eq])
end
end U

end
section
namespace U
open PySem PyProof.Rows L2 Evl
local macro_rules | `(tactic| walk_at "ev1") => `(tactic| first
  | exact ev_int | exact ev_bl | exact ev_str | exact ev_non | exact ev_var rfl | exact ea_nil | exact eo_none
  | with_reducible apply ev_ixDisp | with_reducible apply ev_fst | with_reducible apply ev_snd
  | with_reducible apply ev_add | with_reducible apply ev_sub | with_reducible apply ev_mul | with_reducible apply ev_fdiv | with_reducible apply ev_mod | with_reducible apply ev_pow
  | with_reducible apply ev_lt | with_reducible apply ev_le | with_reducible apply ev_gt | with_reducible apply ev_ge
  | with_reducible apply ev_eqI | with_reducible apply ev_neI
  | with_reducible apply ev_neg | with_reducible apply ev_subB | with_reducible apply ev_isNo | with_reducible apply ev_noNo
  | with_reducible apply ev_not | with_reducible apply et_test | with_reducible apply et_B | with_reducible apply et_not
  | with_reducible apply ev_abs | with_reducible apply ev_max | with_reducible apply ev_min | with_reducible apply ev_intB
  | with_reducible apply ev_gcd | with_reducible apply ev_frac | with_reducible apply ev_fadd | with_reducible apply ev_sign | with_reducible apply ev_cmpF
  | with_reducible apply ev_pull rfl
  | with_reducible apply ev_like
  | with_reducible apply ev_tup | with_reducible apply ev_lst | with_reducible apply ea_cons | with_reducible apply eo_some
  | with_reducible apply ev_order | exact ev_part rfl | exact ev_far rfl | exact ev_farPart rfl
  | (with_reducible show List.length _ ≤ 16000000; (simp; done)) | (with_reducible show (0 : Int) < _; decide) | (with_reducible show (_ : Int) < 1000000000000; decide) | (with_reducible show CPow _ _; (unfold CPow; decide)) | (with_reducible show CNz _ _; (unfold CNz; decide))
  | with_reducible apply sg_ret | with_reducible apply sg_asg | with_reducible apply sg_next)
local macro_rules | `(tactic| walk_at "ln") => `(tactic| first | walk_at "ev1" | with_reducible apply sg_seq)
section

/-! ### part -/
theorem fdiv_neg2 (a g : Int) : a.fdiv (-g) = (-a).fdiv g := by
  have h := Int.neg_fdiv_neg (-a) g
  rw [Int.neg_neg] at h
  exact h
theorem gI_one (a : Int) : gI a 1 = 1 := by
  unfold gI gN
  show ((max (Nat.gcd a.natAbs 1) 1 : Nat) : Int) = 1
  rw [Nat.gcd_one_right]
  rfl
section
variable {K : Fg} {cs : Cs} {W : WX} {G : Gam} {s s1 s2 s' : Bag} {ta tb te : TE} {x y : PyData} {E : St → XK}
end
section
variable {K : Fg} {cs : Cs}
-- slots of part: 0 above, 1 below, 2 divisor
-- slots of told01: 0 _law_above, 1 _law_below, 2 why
end

end
section

theorem fdiv_pos {c g : Int} (hg : 0 < g) (h : g ≤ c) : 0 < c.fdiv g := by
  rw [Int.fdiv_eq_ediv_of_nonneg _ (Int.le_of_lt hg)]
  have : 1 ≤ c / g := Int.le_ediv_of_mul_le hg (by omega)
  omega
theorem gI_le_right {a b : Int} (hb : b ≠ 0) : gI a b ≤ (b.natAbs : Int) := qt_of (by simp (disch := with_unfolding_all
  unfold gI gN
  have h1 : 0 < b.natAbs := Int.natAbs_pos.mpr hb
  have h2 := Nat.gcd_le_right (m := a.natAbs) (n := b.natAbs) h1
  have : max (Nat.gcd a.natAbs b.natAbs) 1 ≤ b.natAbs := Nat.max_le.mpr ⟨h2, h1⟩
  omega
  ) only [↓qt_eq])
theorem fracF_pos {a b : Int} (hb : b ≠ 0) : 0 < (fracF a b).2 := qt_of (by simp (disch := with_unfolding_all
  have hg := gI_pos a b
  have hl := gI_le_right (a := a) hb
  unfold fracF
  by_cases h : b < 0
  · show 0 < b.fdiv (if b < 0 then -gI a b else gI a b)
    rw [if_pos h, fdiv_neg2]
    exact fdiv_pos hg (by omega)
  · rw [if_neg h]
    exact fdiv_pos hg (by omega)
  ) only [↓qt_eq])
theorem partOf_pos (s : Bag) : 0 < (partOf s).2 := qt_of (by simp (disch := with_unfolding_all
  obtain ⟨y1, y2⟩ := pullV_range (pullS s 13) (n := 4) (by decide)
  have hm := menu_mem (l := [1, 1, 2, 3]) y1 y2
  refine fracF_pos ?_
  generalize menu _ _ = m at hm
  simp only [List.mem_cons, List.not_mem_nil, or_false] at hm
  omega
  ) only [↓qt_eq])
section
variable {K : Fg} {cs : Cs} {W : WX} {G : Gam} {s s1 s2 s' : Bag} {ta tb te : TE} {x y : PyData} {E : St → XK} {E' : XK} {p q : Fr}
-- slots of plus: 0 one, 1 other
-- slots of minus: 0 one, 1 other
-- slots of times: 0 one, 1 other
-- slots of over: 0 one, 1 other
-- slots of middle: 0 one, 1 other
-- slots of _law_sub: 0 _law_one, 1 _law_other
-- slots of _law_mul: 0 _law_one, 1 _law_other
-- slots of _law_div: 0 _law_one, 1 _law_other
-- slots of told03: 0 _law_one, 1 _law_other, 2 why
end

end
section

/-! ### fractions in lowest terms -/
theorem gI_dvd_left {a b : Int} (hb : b ≠ 0) : ∃ c, a = gI a b * c := qt_of (by simp (disch := with_unfolding_all
  have e : gI a b = (Nat.gcd a.natAbs b.natAbs : Nat) := by
    unfold gI gN
    have : 0 < Nat.gcd a.natAbs b.natAbs := Nat.gcd_pos_of_pos_right _ (Int.natAbs_pos.mpr hb)
    have : max (Nat.gcd a.natAbs b.natAbs) 1 = Nat.gcd a.natAbs b.natAbs := Nat.max_eq_left this
    omega
  rw [e]
  exact Int.ofNat_dvd_left.mpr (Nat.gcd_dvd_left _ _)
  ) only [↓qt_eq])
theorem gI_dvd_right {a b : Int} (hb : b ≠ 0) : ∃ c, b = gI a b * c := qt_of (by simp (disch := with_unfolding_all
  have e : gI a b = (Nat.gcd a.natAbs b.natAbs : Nat) := by
    unfold gI gN
    have : 0 < Nat.gcd a.natAbs b.natAbs := Nat.gcd_pos_of_pos_right _ (Int.natAbs_pos.mpr hb)
    have : max (Nat.gcd a.natAbs b.natAbs) 1 = Nat.gcd a.natAbs b.natAbs := Nat.max_eq_left this
    omega
  rw [e]
  exact Int.ofNat_dvd_left.mpr (Nat.gcd_dvd_right _ _)
  ) only [↓qt_eq])
/-- fracF by its factor -/
theorem fracF_spec {a b : Int} (hb : b ≠ 0) : ∃ k : Int, k ≠ 0 ∧ a = k * (fracF a b).1 ∧ b = k * (fracF a b).2 ∧ k.natAbs = Nat.gcd a.natAbs b.natAbs := qt_of (by simp (disch := with_unfolding_all
  have hg := gI_pos a b
  have hn : gI a b = (Nat.gcd a.natAbs b.natAbs : Nat) := by
    unfold gI gN
    have : 0 < Nat.gcd a.natAbs b.natAbs := Nat.gcd_pos_of_pos_right _ (Int.natAbs_pos.mpr hb)
    have : max (Nat.gcd a.natAbs b.natAbs) 1 = Nat.gcd a.natAbs b.natAbs := Nat.max_eq_left this
    omega
  obtain ⟨c, hc⟩ := gI_dvd_left (a := a) hb
  obtain ⟨d, hd⟩ := gI_dvd_right (a := a) hb
  have fd : ∀ (g x : Int), g ≠ 0 → (g * x).fdiv g = x := fun g x h => Int.mul_fdiv_cancel_left x h
  unfold fracF
  by_cases h : b < 0
  · rw [if_pos h]
    refine ⟨-gI a b, by omega, ?_, ?_, by rw [Int.natAbs_neg, hn, Int.natAbs_natCast]⟩
    · have : a = -gI a b * -c := by rw [Int.neg_mul_neg]; exact hc
      show a = -gI a b * a.fdiv (-gI a b)
      have e := fd (-gI a b) (-c) (by omega)
      rw [← this] at e
      rw [e]; exact this
    · have : b = -gI a b * -d := by rw [Int.neg_mul_neg]; exact hd
      show b = -gI a b * b.fdiv (-gI a b)
      have e := fd (-gI a b) (-d) (by omega)
      rw [← this] at e
      rw [e]; exact this
  · rw [if_neg h]
    refine ⟨gI a b, by omega, ?_, ?_, by rw [hn, Int.natAbs_natCast]⟩
    · show a = gI a b * a.fdiv (gI a b)
      have e := fd (gI a b) c (by omega)
      rw [← hc] at e
      rw [e]; exact hc
    · show b = gI a b * b.fdiv (gI a b)
      have e := fd (gI a b) d (by omega)
      rw [← hd] at e
      rw [e]; exact hd
  ) only [↓qt_eq])
theorem fracF_low {a b : Int} (hb : b ≠ 0) : gI (fracF a b).1 (fracF a b).2 = 1 := qt_of (by simp (disch := with_unfolding_all
  obtain ⟨k, hk, h1, h2, h3⟩ := fracF_spec (a := a) hb
  have hpos : 0 < k.natAbs := Int.natAbs_pos.mpr hk
  generalize (fracF a b).1 = x at *
  generalize (fracF a b).2 = y at *
  have : Nat.gcd (k * x).natAbs (k * y).natAbs = k.natAbs * Nat.gcd x.natAbs y.natAbs := by
    rw [Int.natAbs_mul, Int.natAbs_mul, Nat.gcd_mul_left]
  rw [← h1, ← h2, ← h3] at this
  have g1 : Nat.gcd x.natAbs y.natAbs = 1 := Nat.eq_of_mul_eq_mul_left hpos (by rw [← this, Nat.mul_one])
  unfold gI gN
  rw [g1]
  rfl
  ) only [↓qt_eq])
theorem fracF_isPart {a b : Int} (hb : b ≠ 0) : isPart (fr (fracF a b)) = true := by
  show (decide (0 < (fracF a b).2) && decide (gI (fracF a b).1 (fracF a b).2 = 1)) = true
  rw [decide_eq_true (fracF_pos hb), decide_eq_true (fracF_low hb)]
  rfl
theorem partOf_isPart (s : Bag) : isPart (fr (partOf s)) = true := qt_of (by simp (disch := with_unfolding_all
  obtain ⟨y1, y2⟩ := pullV_range (pullS s 13) (n := 4) (by decide)
  have hm := menu_mem (l := [1, 1, 2, 3]) y1 y2
  refine fracF_isPart ?_
  generalize menu _ _ = m at hm
  simp only [List.mem_cons, List.not_mem_nil, or_false] at hm
  omega
  ) only [↓qt_eq])
/-! ### spots -/
section
variable {K : Fg} {cs : Cs} {W : WX} {G : Gam} {s s1 s2 s' : Bag} {ta tb te : TE} {x y : PyData} {E : XK}
-- slots of is_spot: 0 thing, 1 room, 2 one
-- slots of _law_spot: 0 _law_bag_here, 1 _law_rank, 2 _law_at
end

end
end U
end
section
namespace U
open PySem PyProof.Rows L2 Evl
/-! ### fractions as rational numbers -/
structure Gd (n : Nat) (p : Fr) : Prop where
  sz : Sz n p
  pos : 0 < p.2
  low : gI p.1 p.2 = 1
theorem Gd.mono {n m : Nat} {p : Fr} (h : Gd n p) (l : n ≤ m) : Gd m p := ⟨h.sz.mono l, h.pos, h.low⟩
theorem partOf_gd (s : Bag) : Gd 10 (partOf s) := qt_of (by simp (disch := with_unfolding_all
  refine ⟨partOf_sz s, partOf_pos s, ?_⟩
  have h := partOf_isPart s
  have h : (decide (0 < (partOf s).2) && decide (gI (partOf s).1 (partOf s).2 = 1)) = true := h
  exact of_decide_eq_true (Bool.and_eq_true_iff.mp h).2
  ) only [↓qt_eq])
/-! ### signs -/
end U

end
section
namespace U
open PySem PyProof.Rows L2 Evl
local macro_rules | `(tactic| walk_at "ev1") => `(tactic| first
  | exact ev_int | exact ev_bl | exact ev_str | exact ev_non | exact ev_var rfl | exact ea_nil | exact eo_none
  | with_reducible apply ev_ixDisp | with_reducible apply ev_fst | with_reducible apply ev_snd
  | with_reducible apply ev_add | with_reducible apply ev_sub | with_reducible apply ev_mul | with_reducible apply ev_fdiv | with_reducible apply ev_mod | with_reducible apply ev_pow
  | with_reducible apply ev_lt | with_reducible apply ev_le | with_reducible apply ev_gt | with_reducible apply ev_ge
  | with_reducible apply ev_eqI | with_reducible apply ev_neI
  | with_reducible apply ev_neg | with_reducible apply ev_subB | with_reducible apply ev_isNo | with_reducible apply ev_noNo
  | with_reducible apply ev_not | with_reducible apply et_test | with_reducible apply et_B | with_reducible apply et_not
  | with_reducible apply ev_abs | with_reducible apply ev_max | with_reducible apply ev_min | with_reducible apply ev_intB
  | with_reducible apply ev_gcd | with_reducible apply ev_frac | with_reducible apply ev_fadd | with_reducible apply ev_sign | with_reducible apply ev_cmpF
  | with_reducible apply ev_pull rfl
  | with_reducible apply ev_like
  | with_reducible apply ev_tup | with_reducible apply ev_lst | with_reducible apply ea_cons | with_reducible apply eo_some
  | with_reducible apply ev_order | exact ev_part rfl | exact ev_far rfl | exact ev_farPart rfl
  | (with_reducible show List.length _ ≤ 16000000; (simp; done)) | (with_reducible show (0 : Int) < _; decide) | (with_reducible show (_ : Int) < 1000000000000; decide) | (with_reducible show CPow _ _; (unfold CPow; decide)) | (with_reducible show CNz _ _; (unfold CNz; decide))
  | with_reducible apply sg_ret | with_reducible apply sg_asg | with_reducible apply sg_next)
local macro_rules | `(tactic| walk_at "ln") => `(tactic| first | walk_at "ev1" | with_reducible apply sg_seq)
section

/-! ### rows of fractions -/
noncomputable abbrev frs (ps : List Fr) : PyData := .tuple (ps.map fr)
noncomputable def Gds (n : Nat) (ps : List Fr) : Prop := ∀ p ∈ ps, Gd n p
section
variable {K : Fg} {cs : Cs} {W : WX} {G : Gam} {s s1 s2 s3 s' : Bag} {ta tb tc te : TE} {x y : PyData} {E : XK}
/-! step_from, across, side_of -/
-- slots of step_from: 0 one, 1 other, 2 first, 3 second
-- slots of across: 0 one, 1 other
-- slots of side_of: 0 start, 1 end, 2 spot
/-! ### the law's own -/
-- slots of _law_hom: 0 _law_spot_here
-- slots of _law_det: 0 _law_one, 1 _law_two, 2 _law_three, 3 _law_first, 4 _law_second
-- slots of _law_turn: 0 _law_one, 1 _law_two, 2 _law_three
-- slots of _law_along: 0 _law_one, 1 _law_two, 2 _law_share, 3 _law_steps, 4 _law_at
end

end
section

section
variable {K : Fg} {cs : Cs} {W : WX} {G : Gam} {s s1 s2 s3 s4 s' : Bag} {ta tb tc td te : TE} {x y : PyData} {E : XK} {E2 : St → XK}
-- slots of gone: 0 spot, 1 step, 2 many, 3 first, 4 second
/-! crossing -/
-- slots of crossing: 0 start, 1 end, 2 other_start, 3 other_end, 4 step, 5 other_step, 6 span, 7 many
-- slots of told09: 0 _law_one, 1 _law_two, 2 _law_three, 3 _law_four, 4 why
/-! the law's own -/
-- slots of _law_mid: 0 _law_one, 1 _law_two, 2 _law_at
-- slots of _law_lowest: 0 _law_one, 1 _law_number
-- slots of _law_right: 0 _law_found, 1 _law_one, 2 _law_two, 3 _law_three, 4 _law_four, 5 _law_first, 6 _law_second
end

end
section

/-! ### lists or tuples -/
noncomputable def itemsOf : PyData → Option (List PyData)
  | .list xs => some xs
  | .tuple xs => some xs
  | _ => none
theorem items_cases {x : PyData} {xs : List PyData} (h : itemsOf x = some xs) : x = .list xs ∨ x = .tuple xs := by
  cases x <;> first | cases h | skip
  · exact .inl rfl
  · exact .inr rfl
section
variable {K : Fg} {cs : Cs} {gs : Gs} {W : WX} {G : Gam} {s s1 s2 s3 s' : Bag} {ta tb tc te : TE} {x y : PyData} {E : XK} {xs : List PyData}
/-! ### maps -/
noncomputable abbrev mp (m : List (List Fr)) : PyData := .tuple (m.map frs)
-- slots of map_of: 0 rows, 1 row, 2 one
end

end
section

theorem cutD_to (xs : List PyData) (k : Nat) : cutD xs none (some (k : Int)) = xs.take k := qt_of (by simp (disch := with_unfolding_all
  unfold cutD
  rw [HT.sIx_none, HT.sIx_nat, List.drop_zero, Nat.sub_zero]
  by_cases h : k ≤ xs.length
  · rw [Nat.min_eq_left h]
  · rw [Nat.min_eq_right (by omega), List.take_length, List.take_of_length_le (by omega)]
  ) only [↓qt_eq])
theorem cutD_from (xs : List PyData) (k : Nat) : cutD xs (some (k : Int)) none = xs.drop k := qt_of (by simp (disch := with_unfolding_all
  unfold cutD
  rw [HT.sIx_none, HT.sIx_nat]
  by_cases h : k ≤ xs.length
  · rw [Nat.min_eq_left h, List.take_of_length_le (by rw [List.length_drop]; omega)]
  · rw [Nat.min_eq_right (by omega), Nat.sub_self, List.take_zero, List.drop_of_length_le (by omega)]
  ) only [↓qt_eq])
section
variable {K : Fg} {cs : Cs} {gs : Gs} {W : WX} {G : Gam} {s s1 s2 s3 s' : Bag} {ta tb tc te : TE} {x y : PyData} {E : XK} {xs : List PyData}
-- slots of still: 0 room
-- slots of straightened: 0 way, 1 row
/-! ### drawn maps -/
noncomputable def wholePartOf (s : Bag) : Fr := (pullV s 9 - 4, 1)
noncomputable def P_wholePart : Bag → List PyData → PyData → Bag → Prop := fun s ds r s' => ds = [] ∧ r = fr (wholePartOf s) ∧ s' = pullS s 9
noncomputable def t__law_whole_part (K : Fg) : TS := (tRet (tTup (tCons (tOp (rI0 fun i j => V.int (i - j)) (tCall (spB K P_pull) [] E0 (tCons (tVar 0) (tCons (tC (V.int 9)) tNil))) (tC (V.int 4))) (tCons (tC (V.int 1)) tNil))))
-- slots of _law_whole_part: 0 _law_bag_here
theorem ln__law_whole_part : ∀ s ds r s', P_wholePart s ds r s' → ds.length + 1 = 1 := fun s ds r s' h => by obtain ⟨rfl, _⟩ := h; rfl
theorem rd__law_whole_part {s ds r s'} (h : P_wholePart s ds r s') (ok : s.ok) : SG K (t__law_whole_part K) (.bag :: frame 0 ds) s (.rt r s') := by
  obtain ⟨rfl, rfl, rfl⟩ := h
  exact sg_ret (ev_tup (ea_cons (ev_sub (ev_pull rfl ev_int (by decide) (by decide)) ev_int) (ea_cons ev_int ea_nil)) (by show 2 ≤ 16000000; decide))
theorem wholePartOf_gd (s : Bag) : Gd 10 (wholePartOf s) := by
  have h := pullV_range s (n := 9) (by decide)
  refine ⟨⟨?_, ?_⟩, by show (0 : Int) < 1; decide, gI_one _⟩
  · show Bd 10 (pullV s 9 - 4)
    unfold Bd; omega
  · show Bd 10 1
    unfold Bd; decide
noncomputable def entryOf (s : Bag) : Fr := if pullV s 2 = 0 then partOf (pullS s 2) else wholePartOf (pullS s 2)
noncomputable def entryS (s : Bag) : Bag := if pullV s 2 = 0 then partS (pullS s 2) else pullS (pullS s 2) 9
noncomputable def P_entry : Bag → List PyData → PyData → Bag → Prop := fun s ds r s' => ds = [] ∧ r = fr (entryOf s) ∧ s' = entryS s
theorem entryOf_gd (s : Bag) : Gd 10 (entryOf s) := by
  unfold entryOf
  split
  · exact partOf_gd _
  · exact wholePartOf_gd _
theorem entryS_ok {s : Bag} (h : s.ok) : (entryS s).ok := by
  unfold entryS
  split
  · exact partS_ok (pullS_ok _ h)
  · exact pullS_ok _ (pullS_ok _ h)
noncomputable def t__law_entry (K : Fg) : TS := (tRet (tIf (tTest (tOp rEq (tCall (spB K P_pull) [] E0 (tCons (tVar 0) (tCons (tC (V.int 2)) tNil))) (tC (V.int 0)))) (tCall (spB K P_part) [] E0 (tCons (tVar 0) tNil)) (tCall (spB K P_wholePart) [] E0 (tCons (tVar 0) tNil))))
-- slots of _law_entry: 0 _law_bag_here
theorem ln__law_entry : ∀ s ds r s', P_entry s ds r s' → ds.length + 1 = 1 := fun s ds r s' h => by obtain ⟨rfl, _⟩ := h; rfl
theorem rd__law_entry {s ds r s'} (h : P_entry s ds r s') (ok : s.ok) : SG K (t__law_entry K) (.bag :: frame 0 ds) s (.rt r s') := qt_of (by simp (disch := with_unfolding_all
  obtain ⟨rfl, rfl, rfl⟩ := h
  unfold entryOf entryS
  by_cases h : pullV s 2 = 0
  · rw [if_pos h, if_pos h]
    exact sg_ret (ev_ifT (et_is (et_test (ev_eqI (ev_pull rfl ev_int (by decide) (by decide)) ev_int)) (decide_eq_true h)) (ev_part rfl))
  · rw [if_neg h, if_neg h]
    exact sg_ret (ev_ifF (et_is (et_test (ev_eqI (ev_pull rfl ev_int (by decide) (by decide)) ev_int)) (decide_eq_false h)) (ev_b0 rfl ⟨rfl, rfl, rfl⟩))
  ) only [↓qt_eq])
noncomputable def drawFr (F : Bag → Fr) (N : Bag → Bag) (n : Nat) (s : Bag) : List Fr := (List.range n).map fun i => F (itB N i s)
theorem drawn_fr (F : Bag → Fr) (N : Bag → Bag) (n : Nat) (s : Bag) : drawn (fun s => fr (F s)) N n s = (drawFr F N n s).map fr := by
  unfold drawn drawFr
  rw [List.map_map]
  rfl
theorem drawFr_gd {k : Nat} {F : Bag → Fr} {N : Bag → Bag} (h : ∀ s, Gd k (F s)) (n : Nat) (s : Bag) : Gds k (drawFr F N n s) := fun p hp => by
  unfold drawFr at hp
  obtain ⟨i, _, rfl⟩ := List.mem_map.mp hp
  exact h _
theorem drawFr_len (F : Bag → Fr) (N : Bag → Bag) (n : Nat) (s : Bag) : (drawFr F N n s).length = n := by simp [drawFr]
theorem itB_ok {N : Bag → Bag} (h : ∀ {s : Bag}, s.ok → (N s).ok) {s : Bag} (hs : s.ok) : ∀ n, (itB N n s).ok
  | 0 => hs
  | n + 1 => h (itB_ok h hs n)
noncomputable def rowOf (n : Nat) (s : Bag) : List Fr := drawFr entryOf entryS n s
noncomputable def rowS (n : Nat) (s : Bag) : Bag := itB entryS n s
noncomputable def mapOf (st gl : Nat) (s : Bag) : List (List Fr) := (List.range gl).map fun i => rowOf (st + 1) (itB (rowS (st + 1)) i s)
noncomputable def mapS (st gl : Nat) (s : Bag) : Bag := itB (rowS (st + 1)) gl s
/-- a map of n rows of m + 1 fractions -/
structure Mp (k n m : Nat) (a : List (List Fr)) : Prop where
  len : a.length = n
  row : ∀ r ∈ a, r.length = m + 1 ∧ Gds k r
theorem mapOf_mp (st gl : Nat) (s : Bag) : Mp 10 gl st (mapOf st gl s) := by
  refine ⟨by simp [mapOf], fun r hr => ?_⟩
  unfold mapOf at hr
  obtain ⟨i, _, rfl⟩ := List.mem_map.mp hr
  exact ⟨drawFr_len _ _ _ _, drawFr_gd entryOf_gd _ _⟩
theorem mapS_ok {s : Bag} (h : s.ok) (st gl : Nat) : (mapS st gl s).ok := itB_ok (fun h => itB_ok entryS_ok h _) h _
noncomputable def P_map : Bag → List PyData → PyData → Bag → Prop := fun s ds r s' => ∃ st gl : Nat, ds = [.int st, .int gl] ∧ st ≤ 1000 ∧ gl ≤ 1000 ∧ r = mp (mapOf st gl s) ∧ s' = mapS st gl s
noncomputable def t__law_map (K : Fg) : TS := (tRet (tCB (rTupQ K) (tCons (tLc (iRng1 (tCons (tVar 2) tNil)) (gName 3) tYes (tCB (rTupQ K) (tCons (tLc (iRng1 (tCons (tOp (rI0 fun i j => V.int (i + j)) (tVar 1) (tC (V.int 1))) tNil)) (gName 4) tYes (tCall (spB K P_entry) [] E0 (tCons (tVar 0) tNil)) [4]) tNil)) [3]) tNil)))
-- slots of _law_map: 0 _law_bag_here, 1 _law_start, 2 _law_goal, 3 _law_row, 4 _law_at
theorem ln__law_map : ∀ s ds r s', P_map s ds r s' → ds.length + 1 = 3 := fun s ds r s' h => by obtain ⟨_, _, rfl, _⟩ := h; rfl
theorem rd__law_map {s ds r s'} (h : P_map s ds r s') (ok : s.ok) : SG K (t__law_map K) (.bag :: frame 4 ds) s (.rt r s') := qt_of (by simp (disch := with_unfolding_all
  obtain ⟨st, gl, rfl, h1, h2, rfl, rfl⟩ := h
  have inner : ∀ (x : PyData) (s : Bag), EvG K (tCB (rTupQ K) (tCons (tLc (iRng1 (tCons (tOp (rI0 fun i j => V.int (i + j)) (tVar 1) (tC (V.int 1))) tNil)) (gName 4) tYes (tCall (spB K P_entry) [] E0 (tCons (tVar 0) tNil)) [4]) tNil)) [.bag, .d (.int st), .d (.int gl), .d x, .un] s (frs (rowOf (st + 1) s)) (rowS (st + 1) s) := fun x s => by
    have e := ev_lcDraw (K := K) (te := tCall (spB K P_entry) [] E0 (tCons (tVar 0) tNil)) (G := [.bag, .d (.int st), .d (.int gl), .d x, .un]) (src_rng1 (ta := tCons (tOp (rI0 fun i j => V.int (i + j)) (tVar 1) (tC (V.int 1))) tNil) (s := s) (ea_cons (ev_add (ev_var rfl) ev_int) ea_nil) ⟨by omega, by omega⟩) (g := gName 4) (vs := [4]) (fun s => fr (entryOf s)) entryS (un_at rfl) (by rw [rngD_len]; omega)
      (fun x s hx => ⟨_, tgt_name, ev_b0 rfl ⟨rfl, rfl, rfl⟩⟩)
    rw [rngD_len, show ((st : Int) + 1).toNat = st + 1 by omega, drawn_fr] at e
    exact ev_tupL e
  have e := ev_lcDraw (K := K) (G := .bag :: frame 4 [.int st, .int gl]) (src_rng1 (ta := tCons (tVar 2) tNil) (s := s) (ea_cons (ev_var rfl) ea_nil) ⟨by omega, by omega⟩) (g := gName 3) (vs := [3]) (fun s => frs (rowOf (st + 1) s)) (rowS (st + 1)) (un_at rfl) (by rw [rngD_len]; omega)
    (fun x s hx => ⟨_, tgt_name, inner x s⟩)
  rw [rngD_len, Int.toNat_natCast] at e
  refine sg_ret (ev_is (ev_tupL e) ?_)
  unfold mapOf drawn mp
  rw [List.map_map]
  rfl
  ) only [↓qt_eq])
-- slots of told15: 0 _law_rows, 1 why
end

end
end U
end
section
namespace U
open PySem PyProof.Rows L2 Evl
section
variable {K : Fg} {cs : Cs} {gs : Gs} {W : WX} {G GI G1 : Gam} {s s1 s2 s3 s' : Bag} {ta tb tc te : TE} {x y : PyData} {E : XK} {xs : List PyData}
end
end U


end
section
namespace U.N
open PySem PyProof.Rows L2 Evl
section
variable {K : Fg} {cs : Cs} {W : WX} {G G' G1 G2 : Gam} {ta tb tc te : TE} {t u : TT} {φ : PyData → Prop} {ε : Xw → Prop} {ψ : Bool → Prop} {α : List PyData → Prop} {ι : List PyData → Prop} {χ : Own → Prop} {ω : Option Int → Prop}
variable {Wd : Addr → Prop} {B : Bt} {ad : Nat → Addr} {H0 H H1 H2 : Hp} {σ : St}
/-! ### items -/
/-- an item of a list or a tuple -/
theorem ew_ix (h : EW K cs W ta G (fun x => ∃ xs, itemsOf x = some xs ∧ EW K cs W tb G (fun y => ∃ j, y = .int j ∧ ∃ z, atI xs j = some z ∧ φ z) ε) ε) : EW K cs W (tOp (rIx K) ta tb) G φ ε :=
  ew_op (ew_mono h fun x ⟨xs, e, h⟩ => ew_mono h fun y ⟨j, e2, z, hz, p⟩ => fun Wd B ad H0 H σ v w S d1 d2 Q q => by
    subst e2
    cases d2
    rcases items_cases e with rfl | rfl
    · cases d1 with
      | lst g t =>
        obtain ⟨v, g1, g2⟩ := dpa_atI t hz
        exact .inl ⟨_, _, j, v, rfl, rfl, ex_l less_ex g, g1, q _ p _ H S Xb.refl g2⟩
    · cases d1 with
      | tup g t =>
        obtain ⟨v, g1, g2⟩ := dpa_atI t hz
        exact .inr (.inl ⟨_, _, j, v, rfl, rfl, ex_t less_ex g, g1, q _ p _ H S Xb.refl g2⟩))
/-! ### tests -/
theorem tw_test (h : EW K cs W te G (fun x => ∃ b, x = .bool b ∧ ψ b) ε) : TW K cs W (tTest te) G ψ ε := fun Wd B ad H0 H σ S Q q x => h Wd B ad H0 H σ S _ (fun y ⟨b, e, p⟩ v H1 S1 e1 d1 => by
  subst e
  cases d1
  exact ⟨b, rfl, q b p H1 S1 e1⟩) x
theorem tw_B (h : EW K cs W te G (fun x => ∃ b, x = .bool b ∧ ψ b) ε) : TW K cs W (tB te) G ψ ε := tw_test h
theorem tw_yes (h : ψ true) : TW K cs W tYes G ψ ε := fun Wd B ad H0 H σ S Q q x => q true h H S Xb.refl
theorem tw_not (h : TW K cs W t G (fun b => ψ (!b)) ε) : TW K cs W (tNot t) G ψ ε := fun Wd B ad H0 H σ S Q q x => h Wd B ad H0 H σ S _ (fun b p => q (!b) p) x
theorem tw_and (h : TW K cs W t G (fun b => Cnd b (TW K cs W u G ψ ε) (ψ false)) ε) : TW K cs W (tAnd t u) G ψ ε := fun Wd B ad H0 H σ S Q q x => h Wd B ad H0 H σ S _ (fun b p H1 S1 e1 => by
  cases b with
  | true => exact iteT (p.1 rfl Wd B ad H0 H1 σ S1 _ (fun b p H2 S2 e2 => q b p H2 S2 (e1.trans e2)) (x.go e1))
  | false => exact iteF (q _ (p.2 rfl) H1 S1 e1)) x
theorem tw_or (h : TW K cs W t G (fun b => Cnd b (ψ true) (TW K cs W u G ψ ε)) ε) : TW K cs W (tOr t u) G ψ ε := fun Wd B ad H0 H σ S Q q x => h Wd B ad H0 H σ S _ (fun b p H1 S1 e1 => by
  cases b with
  | false => exact iteF (p.2 rfl Wd B ad H0 H1 σ S1 _ (fun b p H2 S2 e2 => q b p H2 S2 (e1.trans e2)) (x.go e1))
  | true => exact iteT (q _ (p.1 rfl) H1 S1 e1)) x
theorem ew_if (h : TW K cs W t G (fun b => Cnd b (EW K cs W ta G φ ε) (EW K cs W tb G φ ε)) ε) : EW K cs W (tIf t ta tb) G φ ε := fun Wd B ad H0 H σ S Q q x => h Wd B ad H0 H σ S _ (fun b p H1 S1 e1 => by
  cases b with
  | true => exact iteT (p.1 rfl Wd B ad H0 H1 σ S1 _ (fun b p v H2 S2 e2 d2 => q b p v H2 S2 (e1.trans e2) d2) (x.go e1))
  | false => exact iteF (p.2 rfl Wd B ad H0 H1 σ S1 _ (fun b p v H2 S2 e2 d2 => q b p v H2 S2 (e1.trans e2) d2) (x.go e1))) x
/-! ### promises -/
inductive Rs where
  | ok (x : PyData)
  | fl (c : Own)
  | er (e : Xw)
noncomputable abbrev Pr := List PyData → (Rs → Prop) → Prop
noncomputable def okRs (H : Hp) (K : Fg) (Wd : Addr → Prop) (Q : VK) (A : Rs → Prop) : Prop :=
  (∀ x, A (.ok x) → ∀ v H', Ex H H' → Dp K (less H' Wd) v x → Q v H') ∧
  (∀ c, A (.fl c) → ∀ a vs H', Ex H H' → H a = none → H' a = some (c.obj a vs) → DpAll K (less H' fun b => Wd b ∨ b = a) vs c.flat → Q (.ref a) H')
/-- a def that never raises -/
noncomputable def spW0 (K : Fg) (P : Pr) : Sp := fun vs H Q _ => ∃ (Wd : Addr → Prop) (ds : List PyData) (A : Rs → Prop), (∀ a, Wd a → ∃ o, H a = some o) ∧ DpAll K (less H Wd) vs ds ∧ P ds A ∧ okRs H K Wd Q A
/-- a def that draws, the bag its first argument -/
noncomputable def spWB (K : Fg) (P : Pr) : Sp := fun vs H Q _ => ∃ (Wd : Addr → Prop) (b c : Addr) (us : List V) (ds : List PyData) (A : Rs → Prop), (∀ a, Wd a → ∃ o, H a = some o) ∧ vs = .ref b :: us ∧ BagOk H (bgB b c) ∧
  DpAll K (less H fun a => Wd a ∨ InB (bgB b c) a) us ds ∧ P ds A ∧
  (∀ x, A (.ok x) → ∀ v H', Xb (bgB b c) H H' → BagOk H' (bgB b c) → Dp K (less H' fun a => Wd a ∨ InB (bgB b c) a) v x → Q v H') ∧
  (∀ l, A (.fl l) → ∀ a vs H', Xb (bgB b c) H H' → BagOk H' (bgB b c) → H a = none → H' a = some (l.obj a vs) → DpAll K (less H' fun b' => (Wd b' ∨ InB (bgB b c) b') ∨ b' = a) vs l.flat → Q (.ref a) H')
/-- what is wanted of a call's answer -/
noncomputable def rE (φ : PyData → Prop) (ε : Xw → Prop) : Rs → Prop
  | .ok x => φ x
  | .fl c => ∃ xs, c = ol xs ∧ φ (.list xs)
  | .er e => ε e
theorem fl_upd {a : Addr} {o : HO} (h : H a = some o) : upd (less H fun b => b = a) a o = H := by
  funext b
  by_cases e : b = a
  · rw [e, upd_same, h]
  · rw [upd_ne e]; exact less_no (Z := fun b => b = a) e
theorem less_less {Z Z' : Addr → Prop} : less (less H Z) Z' = less H fun b => Z b ∨ Z' b := qt_of (by simp (disch := with_unfolding_all
  funext b
  by_cases z' : Z' b
  · rw [less_yes z', less_yes (.inr z')]
  · rw [less_no z']
    by_cases z : Z b
    · rw [less_yes z, less_yes (.inl z)]
    · rw [less_no z, less_no (fun h => h.elim z z')]
  ) only [↓qt_eq])
/-- the answer of a call, a new thing: what stood before stands without it -/
theorem fl_go {a : Addr} {o : HO} (S : Sta K Wd B ad H0 H σ G) (e : Xb B H H2) (b : BagOk H2 B) (t : ∀ p ∈ B.T, TabZ H2 (fun b => Zs Wd B ad G b ∨ b = a) p) (hn : H a = none) (ho : H2 a = some o) : Sta K Wd B ad H0 (less H2 fun b => b = a) σ G ∧ Xb B H (less H2 fun b => b = a) ∧ (less H2 fun b => b = a) a = none ∧ (less (less H2 fun b => b = a) (Zs Wd B ad G)) = less H2 (fun b => Zs Wd B ad G b ∨ b = a) := qt_of (by simp (disch := with_unfolding_all
  have x : Xb B H (less H2 fun b => b = a) := fun p u h n => less_of (fun z => by rw [z, hn] at h; cases h) (e p u h n)
  have nb : ¬ InB B a := (S.fresh hn).2.1
  refine ⟨S.drawn x (b.xb fun p z => less_no fun e => nb (e ▸ z)) fun p hp => (t p hp).mono (by
    rw [less_less]
    exact less_sub fun b z => z.elim .inr .inl) (less_no fun z => nb (z ▸ InB.tab hp)), x, less_yes rfl, ?_⟩
  rw [less_less]
  exact congrArg (less H2) (funext fun b => propext Or.comm)
  ) only [↓qt_eq])
theorem ew_callP {P : List PyData → PyData → Prop} {ta : TA} {dvs : List V} {des : List PyData} {E : XK} (hd : ∀ H, DpAll K H dvs des) (h : AW K cs W ta G (fun ds => ∃ r, P (ds ++ des) r ∧ φ r) ε) : EW K cs W (tCall (spP K P) dvs E ta) G φ ε := fun Wd B ad H0 H σ S Q q x =>
  h Wd B ad H0 H σ S _ (fun ds ⟨r, hp, p⟩ vs H1 S1 e1 d1 => ⟨Zs Wd B ad G, ds ++ des, r, S1.there, dpa_app d1 (hd _), hp, fun v H' e d => q r p v H' (S1.ext e) (e1.trans (.of e)) d⟩) x
theorem bag_zl {b c : Addr} (hb : B.bag = some (b, c)) (H : Hp) : (less H fun a => (Wd a ∨ (∃ i c, G[i]? = some (En.ow c) ∧ a = ad i) ∨ ∃ p ∈ B.T, a = p.1) ∨ InB (bgB b c) a) = less H (Zs Wd B ad G) := congrArg (less H) (funext fun a => propext (by
  have e : InB B a ↔ (U.InB (some (b, c)) a ∨ ∃ p ∈ B.T, a = p.1) := by rw [← hb]; exact Iff.rfl
  have e2 : InB (bgB b c) a ↔ U.InB (some (b, c)) a := ⟨fun z => z.elim id fun ⟨p, hp, _⟩ => (by cases hp), .inl⟩
  show _ ↔ Wd a ∨ _ ∨ InB B a
  rw [e, e2]
  constructor
  · rintro ((z | z | z) | z)
    · exact .inl z
    · exact .inr (.inl z)
    · exact .inr (.inr (.inr z))
    · exact .inr (.inr (.inl z))
  · rintro (z | z | z | z)
    · exact .inl (.inl z)
    · exact .inl (.inr (.inl z))
    · exact .inr z
    · exact .inl (.inr (.inr z))))
theorem wd_bag {b c : Addr} (S : Sta K Wd B ad H0 H σ G) (a : Addr) (z : Wd a ∨ (∃ i c, G[i]? = some (En.ow c) ∧ a = ad i) ∨ ∃ p ∈ B.T, a = p.1) : ∃ o, H a = some o := S.there a (by
  rcases z with z | z | z
  · exact .inl z
  · exact .inr (.inl z)
  · exact .inr (.inr (.inr z)))
theorem bagok_cut {b c : Addr} (hb : B.bag = some (b, c)) (k : BagOk H B) : BagOk H (bgB b c) := ⟨by show ∃ s : Bag, s.ok ∧ BagAt H (some (b, c)) s; rw [← hb]; exact k.1, fun p hp => by cases hp⟩
theorem ew_callB {P : Bag → List PyData → PyData → Bag → Prop} {tr : TA} {i : Nat} {E : XK} (hi : G[i]? = some .bag) (h : AW K cs W tr G (fun ds => ∀ s : Bag, s.ok → ∃ r s', P s ds r s' ∧ s'.ok ∧ φ r) ε) : EW K cs W (tCall (spB K P) [] E (tCons (tVar i) tr)) G φ ε := fun Wd B ad H0 H σ S Q q x => by
  obtain ⟨o, g1, b, c, eb, rfl⟩ := S.at_ i _ hi
  refine ⟨_, g1, h Wd _ ad H0 H σ S _ (fun ds hp vs H1 S1 e1 d1 => ?_) x⟩
  obtain ⟨⟨s, ok, hb⟩, _⟩ := S1.bag
  obtain ⟨r, s', hp, ok', p⟩ := hp s ok
  have zl : ∀ H : Hp, (less H fun a => (Wd a ∨ (∃ i c, G[i]? = some (En.ow c) ∧ a = ad i) ∨ ∃ p ∈ B.T, a = p.1) ∨ U.InB (some (b, c)) a) = less H (Zs Wd B ad G) := fun H => by
    rw [← bag_zl eb]
    exact congrArg (less H) (funext fun a => propext ⟨fun z => z.elim .inl fun z => .inr (.inl z), fun z => z.elim .inl fun z => .inr (z.elim id fun ⟨p, hp, _⟩ => (by cases hp))⟩)
  refine ⟨fun a => Wd a ∨ (∃ i c, G[i]? = some (En.ow c) ∧ a = ad i) ∨ ∃ p ∈ B.T, a = p.1, b, c, vs, s, ds, r, s', fun a z => wd_bag (b := b) (c := c) S1 a z, ?_, by rw [← eb]; exact hb, ?_, hp, fun v H' e hb d => ?_⟩
  · rw [List.append_nil]
  · rw [zl]; exact d1
  · rw [zl] at d
    obtain ⟨t1, t2, t3⟩ := S1.tabB eb (fun a o h n => e a o h fun z => n (.inl z)) ⟨⟨s', ok', hb⟩, fun p hp => by cases hp⟩
    exact q r p v H' (S1.drawn t1 t2 t3) (e1.trans t1) d
section
variable {P : Pr} {ta : TA} {dvs : List V} {des : List PyData} {E : XK}
theorem ew_call0 (hd : ∀ H, DpAll K H dvs des) (h : AW K cs W ta G (fun ds => P (ds ++ des) (rE φ fun _ => False)) ε) : EW K cs W (tCall (spW0 K P) dvs E ta) G φ ε := fun Wd B ad H0 H σ S Q q x =>
  h Wd B ad H0 H σ S _ (fun ds hp vs H1 S1 e1 d1 => ⟨Zs Wd B ad G, ds ++ des, _, S1.there, dpa_app d1 (hd _), hp, fun y p v H' e d => q y p v H' (S1.ext e) (e1.trans (.of e)) d, fun c p a us H' e hn ho d => by
    obtain ⟨xs, rfl, p⟩ := p
    have S2 := S1.ext e
    refine q _ p _ H' S2 (e1.trans (.of e)) (.lst (sq_of (less_of (S1.fresh hn).2.2 ho)) (dpa_mono (less_sub fun b z => .inl z) d))⟩) x
theorem ew_callWB {i : Nat} {tr : TA} (hi : G[i]? = some .bag) (h : AW K cs W tr G (fun ds => P ds (rE φ fun _ => False)) ε) : EW K cs W (tCall (spWB K P) [] E (tCons (tVar i) tr)) G φ ε := fun Wd B ad H0 H σ S Q q x => by
  obtain ⟨o, g1, b, c, eb, rfl⟩ := S.at_ i _ hi
  refine ⟨_, g1, h Wd _ ad H0 H σ S _ (fun ds hp vs H1 S1 e1 d1 => ?_) x⟩
  refine ⟨fun a => Wd a ∨ (∃ i c, G[i]? = some (En.ow c) ∧ a = ad i) ∨ ∃ p ∈ B.T, a = p.1, b, c, vs, ds, _, fun a z => wd_bag (b := b) (c := c) S1 a z, by rw [List.append_nil], bagok_cut eb S1.bag, by rw [bag_zl eb]; exact d1, hp, fun y p v H' e hb d => ?_, fun l p a us H' e hb hn ho d => ?_⟩
  · rw [bag_zl eb] at d
    obtain ⟨t1, t2, t3⟩ := S1.tabB eb e hb
    exact q y p v H' (S1.drawn t1 t2 t3) (e1.trans t1) d
  · obtain ⟨xs, rfl, p⟩ := p
    obtain ⟨t1, t2, t3⟩ := S1.tabB eb e hb
    refine q _ p _ H' (S1.drawn t1 t2 t3) (e1.trans t1) (.lst (sq_of (less_of (S1.fresh hn).2.2 ho)) (dpa_mono ?_ d))
    rw [← bag_zl eb]
    exact less_sub fun b z => .inl z
end
/-! ### built-ins -/
theorem ew_cb {r : List V → Hp → VK → Prop} {ta : TA} (h : AW K cs W ta G (fun xs => ∀ Wd B ad H0 H σ vs, Sta K Wd B ad H0 H σ G → DpAll K (less H (Zs Wd B ad G)) vs xs → ∀ Q : VK, (∀ z, φ z → ∀ v H2, Sta K Wd B ad H0 H2 σ G → Xb B H H2 → Dp K (less H2 (Zs Wd B ad G)) v z → Q v H2) → r vs H Q) ε) : EW K cs W (tCB r ta) G φ ε := fun Wd B ad H0 H σ S Q q x =>
  h Wd B ad H0 H σ S _ (fun xs p vs H1 S1 e1 d1 => p Wd B ad H0 H1 σ vs S1 d1 Q fun z p v H2 S2 e2 d2 => q z p v H2 S2 (e1.trans e2) d2) x
theorem ef_cb {r : List V → Hp → VK → Prop} {ta : TA} (h : AW K cs W ta G (fun xs => ∀ Wd B ad H0 H σ vs, Sta K Wd B ad H0 H σ G → DpAll K (less H (Zs Wd B ad G)) vs xs → ∀ Q : VK, (∀ c, χ c → ∀ a vs H2, Sta K Wd B ad H0 H2 σ G → Xb B H H2 → H2 a = none → DpAll K (less H2 (Zs Wd B ad G)) vs c.flat → Q (.ref a) (upd H2 a (c.obj a vs))) → r vs H Q) ε) : EF K cs W (tCB r ta) G χ ε := fun Wd B ad H0 H σ S Q q x =>
  h Wd B ad H0 H σ S _ (fun xs p vs H1 S1 e1 d1 => p Wd B ad H0 H1 σ vs S1 d1 Q fun c p a us H2 S2 e2 hn d2 => q c p a us H2 S2 (e1.trans e2) hn d2) x
theorem ew_len {ta : TA} (h : AW K cs W ta G (fun xs => ∃ x ys, xs = [x] ∧ itemsOf x = some ys ∧ φ (.int ys.length)) ε) : EW K cs W (tCB (rLenQ K) ta) G φ ε := ew_cb (aw_mono h fun xs ⟨x, ys, e, hx, p⟩ Wd B ad H0 H σ vs S d Q q => by
  subst e
  obtain ⟨v, rfl, d1⟩ := dp1 d
  rcases items_cases hx with rfl | rfl
  · cases d1 with
    | lst g t => exact ⟨_, _, rfl, .inl (ex_l less_ex g), by rw [dpa_len t]; exact q _ p _ H S Xb.refl (.int _)⟩
  · cases d1 with
    | tup g t => exact ⟨_, _, rfl, .inr (ex_t less_ex g), by rw [dpa_len t]; exact q _ p _ H S Xb.refl (.int _)⟩)
theorem ef_list {ta : TA} (h : AW K cs W ta G (fun xs => ∃ x ys, xs = [x] ∧ itemsOf x = some ys ∧ χ (ol ys)) ε) : EF K cs W (tCB (rListQ K) ta) G χ ε := ef_cb (aw_mono h fun xs ⟨x, ys, e, hx, p⟩ Wd B ad H0 H σ vs S d Q q => by
  subst e
  obtain ⟨v, rfl, d1⟩ := dp1 d
  rcases items_cases hx with rfl | rfl
  · cases d1 with
    | lst g t => exact ⟨_, _, rfl, .inl (ex_l less_ex g), fun l hl => q _ p l _ H S Xb.refl hl t⟩
  · cases d1 with
    | tup g t => exact ⟨_, _, rfl, .inr (ex_t less_ex g), fun l hl => q _ p l _ H S Xb.refl hl t⟩)
theorem ew_list {ta : TA} (h : AW K cs W ta G (fun xs => ∃ x ys, xs = [x] ∧ itemsOf x = some ys ∧ φ (.list ys)) ε) : EW K cs W (tCB (rListQ K) ta) G φ ε := ew_ef (ef_list (aw_mono h fun xs ⟨x, ys, e, hx, p⟩ => ⟨x, ys, e, hx, ys, rfl, p⟩))
theorem new_tupW {vs : List V} {xs : List PyData} (S : Sta K Wd B ad H0 H σ G) (d : DpAll K (less H (Zs Wd B ad G)) vs xs) {l : Addr} (hl : H l = none) {Q : VK} (p : φ (.tuple xs))
    (q : ∀ z, φ z → ∀ v H2, Sta K Wd B ad H0 H2 σ G → Xb B H H2 → Dp K (less H2 (Zs Wd B ad G)) v z → Q v H2) : Q (.ref l) (upd H l (.tup vs)) := by
  obtain ⟨S2, e2, g⟩ := new_ex (o := .tup vs) S hl
  exact q _ p _ _ S2 e2 (.tup (st_of g) (dpa_mono (Xb.lz e2) d))
theorem ew_tupO {xs : List PyData} {i : Nat} (hi : G[i]? = some (.ow (ol xs))) (p : φ (.tuple xs)) : EW K cs W (tCB (rTupQ K) (tCons (tVar i) tNil)) G φ ε := fun Wd B ad H0 H σ S Q q x => by
  obtain ⟨o, g1, rfl, vs, g3, g4⟩ := S.at_ i _ hi
  have g3 : H (ad i) = some (.lst vs) := g3
  exact ⟨_, g1, _, _, rfl, .inl ⟨sq_of g3, fun l hl => new_tupW S g4 hl p q⟩⟩
theorem ew_isi {n : String} (h : EW K cs W ta G (fun x => ∃ b, kitB (tyN x) n = some b ∧ φ (.bool b)) ε) : EW K cs W (tCB (rIsi K) (tCons ta (tCons (tC (.ty n)) tNil))) G φ ε := fun Wd B ad H0 H σ S Q q x =>
  h Wd B ad H0 H σ S _ (fun y ⟨b, hb, p⟩ v H1 S1 e1 d1 => ⟨v, .ty n, _, _, b, rfl, .ty n, dp_ty d1, kit_ty hb, q _ p _ H1 S1 e1 (.bl _)⟩) x
/-! ### slices, joins -/
theorem ow_none (p : ω none) : OW K cs W tNoPart G ω ε := fun Wd B ad H0 H σ S Q q _ => q _ p H S Xb.refl
theorem ow_some (h : EW K cs W te G (fun x => ∃ i, x = .int i ∧ ω (some i)) ε) : OW K cs W (tPart te) G ω ε := fun Wd B ad H0 H σ S Q q x => h Wd B ad H0 H σ S _ (fun y ⟨i, e, p⟩ v H1 S1 e1 d1 => by
  subst e
  cases d1
  exact ⟨i, rfl, q _ p H1 S1 e1⟩) x
theorem ef_slL {tl th : TO} (h : EW K cs W te G (fun x => ∃ xs, x = .list xs ∧ OW K cs W tl G (fun lo => OW K cs W th G (fun hi => χ (ol (cutD xs lo hi))) ε) ε) ε) : EF K cs W (tSl (rSlL K) te tl th) G χ ε := fun Wd B ad H0 H σ S Q q x =>
  h Wd B ad H0 H σ S _ (fun y ⟨xs, e, p⟩ v H1 S1 e1 d1 => p Wd B ad H0 H1 σ S1 _ (fun lo p H2 S2 e2 => p Wd B ad H0 H2 σ S2 _ (fun hi p H3 S3 e3 => by
    subst e
    cases dp_mono (Xb.lz (e2.trans e3)) d1 with
    | lst g t => exact ⟨_, _, rfl, ex_l less_ex g, fun l hl => q _ p l _ H3 S3 (e1.trans (e2.trans e3)) hl (dpa_cut t lo hi)⟩) ((x.go e1).go e2)) (x.go e1)) x
theorem ew_slL {tl th : TO} (h : EW K cs W te G (fun x => ∃ xs, x = .list xs ∧ OW K cs W tl G (fun lo => OW K cs W th G (fun hi => φ (.list (cutD xs lo hi))) ε) ε) ε) : EW K cs W (tSl (rSlL K) te tl th) G φ ε :=
  ew_ef (ef_slL (ew_mono h fun x ⟨xs, e, p⟩ => ⟨xs, e, fun Wd B ad H0 H σ S Q q x => p Wd B ad H0 H σ S Q (fun lo p => q lo (fun Wd B ad H0 H σ S Q q x => p Wd B ad H0 H σ S Q (fun hi p => q hi ⟨_, rfl, p⟩) x)) x⟩))
theorem ew_slA {tl th : TO} (h : EW K cs W te G (fun x => ∃ xs, x = .tuple xs ∧ OW K cs W tl G (fun lo => OW K cs W th G (fun hi => φ (.tuple (cutD xs lo hi))) ε) ε) ε) : EW K cs W (tSl (rSlA K) te tl th) G φ ε := fun Wd B ad H0 H σ S Q q x =>
  h Wd B ad H0 H σ S _ (fun y ⟨xs, e, p⟩ v H1 S1 e1 d1 => p Wd B ad H0 H1 σ S1 _ (fun lo p H2 S2 e2 => p Wd B ad H0 H2 σ S2 _ (fun hi p H3 S3 e3 => by
    subst e
    cases dp_mono (Xb.lz (e2.trans e3)) d1 with
    | tup g t =>
      have l := dpa_len t
      refine ⟨_, _, rfl, ex_t less_ex g, fun z => ?_, fun z l hl => new_tupW S3 (dpa_cut t lo hi) hl p fun z p v H4 S4 e4 d4 => q z p v H4 S4 ((e1.trans (e2.trans e3)).trans e4) d4⟩
      rw [l] at z
      exact q _ p _ H3 S3 (e1.trans (e2.trans e3)) (by rw [cutD_whole z]; exact .tup g t)) ((x.go e1).go e2)) (x.go e1)) x
theorem ef_catL (h : EW K cs W ta G (fun x => ∃ xs, x = .list xs ∧ EW K cs W tb G (fun y => ∃ ys, y = .list ys ∧ xs.length + ys.length ≤ 16000000 ∧ χ (ol (xs ++ ys))) ε) ε) : EF K cs W (tOp (rCatL K) ta tb) G χ ε := fun Wd B ad H0 H σ S Q q x =>
  h Wd B ad H0 H σ S _ (fun y ⟨xs, e, p⟩ v H1 S1 e1 d1 => p Wd B ad H0 H1 σ S1 _ (fun y ⟨ys, e', hl, p⟩ w H2 S2 e2 d2 => by
    subst e; subst e'
    cases dp_mono (Xb.lz e2) d1 with
    | lst g t =>
      cases d2 with
      | lst g2 t2 =>
        exact ⟨_, _, _, _, rfl, rfl, ex_l less_ex g, ex_l less_ex g2, by rw [dpa_len t, dpa_len t2]; exact sz_line hl, fun l hn => q _ p l _ H2 S2 (e1.trans e2) hn (dpa_app t t2)⟩) (x.go e1)) x
theorem ew_catL (h : EW K cs W ta G (fun x => ∃ xs, x = .list xs ∧ EW K cs W tb G (fun y => ∃ ys, y = .list ys ∧ xs.length + ys.length ≤ 16000000 ∧ φ (.list (xs ++ ys))) ε) ε) : EW K cs W (tOp (rCatL K) ta tb) G φ ε :=
  ew_ef (ef_catL (ew_mono h fun x ⟨xs, e, p⟩ => ⟨xs, e, ew_mono p fun y ⟨ys, e, hl, p⟩ => ⟨ys, e, hl, _, rfl, p⟩⟩))
/-! ### in, of whole numbers -/
end
end U.N

end
section
namespace U.N
open PySem PyProof.Rows L2 Evl
/-! ### statements -/
noncomputable def sq (K : Fg) (cs : Cs) (W : WX) (tz : TS) (Φ : Out → Prop) : Out → Prop
  | .nx G => SW K cs W tz G Φ
  | .rt x => Φ (.rt x)
  | .rl c => Φ (.rl c)
  | .bk G => Φ (.bk G)
  | .ct G => Φ (.ct G)
  | .ex e G => Φ (.ex e G)
/-- what a turn of a loop may end with -/
noncomputable def lp (I : Gam → Prop) (Φ : Out → Prop) : Out → Prop
  | .nx G => I G
  | .ct G => I G
  | .bk G => Φ (.nx G)
  | .rt x => Φ (.rt x)
  | .rl c => Φ (.rl c)
  | .ex e G => Φ (.ex e G)
section
variable {K : Fg} {cs : Cs} {W : WX} {G G' G1 G2 : Gam} {ta tb tc te : TE} {t u : TT} {tu tw tz : TS} {φ : PyData → Prop} {ε : Xw → Prop} {ψ : Bool → Prop} {α : List PyData → Prop} {ι : List PyData → Prop} {χ : Own → Prop} {Φ Ψ : Out → Prop}
variable {Wd : Addr → Prop} {B : Bt} {ad : Nat → Addr} {H0 H H1 H2 : Hp} {σ : St}
theorem PostO.mono {M M' : Hp} {D : Ends} {o : Out} (e : Ex M M') (h : PostO K cs W Wd B H0 M D o) : PostO K cs W Wd B H0 M' D o := qt_of (by simp (disch := with_unfolding_all
  cases o with
  | nx G => exact fun ad H σ S x => h ad H σ S (e.trans x)
  | rt x => exact h
  | rl c => exact h
  | bk G => exact fun ad H σ S x => h ad H σ S (e.trans x)
  | ct G => exact fun ad H σ S x => h ad H σ S (e.trans x)
  | ex e' G => exact fun d ad H σ S x => h d ad H σ S (e.trans x)
  ) only [↓qt_eq])
theorem post_xp {D : Ends} (q : ∀ o, Φ o → PostO K cs W Wd B H0 (less H (Zs Wd B ad G)) D o) : XP K cs W Wd B ad H0 H σ G (fun e => Φ (.ex e G)) := fun e he d H2 S x hd hx => q _ he d ad H2 σ S (Xb.lz x) hd hx
theorem sw_mono (h : SW K cs W tu G Φ) (m : ∀ o, Φ o → Ψ o) : SW K cs W tu G Ψ := fun Wd B ad H0 H σ D S q => h Wd B ad H0 H σ D S fun o p => q o (m o p)
theorem sw_seq (h : SW K cs W tu G (sq K cs W tz Φ)) : SW K cs W (tSeq tu tz) G Φ := fun Wd B ad H0 H σ D S q =>
  h Wd B ad H0 H σ { D with nx := tz D } S fun o p => by
    cases o with
    | nx G1 => exact fun ad' H' σ' S' e => p Wd B ad' H0 H' σ' D S' fun o p => (q o p).mono e
    | rt x => exact q _ p
    | rl c => exact q _ p
    | bk G => exact q _ p
    | ct G => exact q _ p
    | ex e G => exact q _ p
theorem sq_nx (h : SW K cs W tz G Φ) : sq K cs W tz Φ (.nx G) := h
theorem sq_rt {x : PyData} (h : Φ (.rt x)) : sq K cs W tz Φ (.rt x) := h
theorem lp_nx {I : Gam → Prop} (h : I G) : lp I Φ (.nx G) := h
theorem lp_rt {I : Gam → Prop} {x : PyData} (h : Φ (.rt x)) : lp I Φ (.rt x) := h
theorem sw_next (h : Φ (.nx G)) : SW K cs W tNext G Φ := fun Wd B ad H0 H σ D S q => q _ h ad H σ S (Ex.refl _)
theorem sw_asg {i : Nat} (h : EW K cs W te G (fun x => Φ (.nx (G.set i (.d x)))) (fun e => Φ (.ex e G))) : SW K cs W (tAsg te (gName i)) G Φ := fun Wd B ad H0 H σ D S q =>
  h Wd B ad H0 H σ S _ (fun x p v H1 S1 e1 d1 => q _ p ad H1 _ (S1.setD d1) ((Xb.lz e1).trans (less_sub fun a z => Zs.set_of (fun _ z => by cases z) z))) (post_xp q)
/-- a new thing of one's own -/
theorem sw_asgF {i : Nat} (h : EF K cs W te G (fun c => Φ (.nx (G.set i (.ow c)))) (fun e => Φ (.ex e G))) : SW K cs W (tAsg te (gName i)) G Φ := fun Wd B ad H0 H σ D S q =>
  h Wd B ad H0 H σ S _ (fun c p a vs H1 S1 e1 hn d => q _ p _ _ _ (S1.setOwn (i := i) hn d) ((Xb.lz e1).trans (own_ex hn))) (post_xp q)
theorem sw_ret (h : EW K cs W te G (fun x => Φ (.rt x)) (fun e => Φ (.ex e G))) : SW K cs W (tRet te) G Φ := fun Wd B ad H0 H σ D S q =>
  h Wd B ad H0 H σ S _ (fun x p v H1 S1 e1 d1 => q _ p v H1 S1.base S1.bag (fun p hp => (S1.tab p hp).mono (less_sub fun a z => z.elim .inl fun z => .inr (.inr z)) rfl) (dp_mono (less_sub fun a z => z.elim .inl fun z => .inr (.inr z)) d1)) (post_xp q)
/-- a new list is told -/
theorem sw_retF (h : EF K cs W te G (fun c => Φ (.rl c)) (fun e => Φ (.ex e G))) : SW K cs W (tRet te) G Φ := fun Wd B ad H0 H σ D S q =>
  h Wd B ad H0 H σ S _ (fun c p a vs H1 S1 e1 hn d => by
    obtain ⟨S2, e2, g⟩ := new_ex (o := c.obj a vs) S1 hn
    refine q _ p a vs _ S2.base S2.bag (fun p hp => ((S1.tabN hn p hp).ex (Ex.new hn)).mono (less_sub fun b z => z.elim (fun z => .inl (z.elim .inl fun z => .inr (.inr z))) .inr) rfl) (S1.fresh hn).1 upd_same (dpa_mono ?_ d)
    intro b o hb
    obtain ⟨z, hb⟩ := less_some hb
    refine less_of (fun y => ?_) (e2 _ _ hb fun y => z (.inr (.inr y)))
    rcases y with (y | y) | y
    · exact z (.inl y)
    · exact z (.inr (.inr y))
    · rw [y, hn] at hb; cases hb) (post_xp q)
theorem sw_if (h : TW K cs W t G (fun b => Cnd b (SW K cs W tu G Φ) (SW K cs W tw G Φ)) (fun e => Φ (.ex e G))) : SW K cs W (tIfS t tu tw) G Φ := fun Wd B ad H0 H σ D S q =>
  h Wd B ad H0 H σ S _ (fun b p H1 S1 e1 => by
    cases b with
    | true => exact iteT (p.1 rfl Wd B ad H0 H1 σ D S1 fun o p => (q o p).mono (Xb.lz e1))
    | false => exact iteF (p.2 rfl Wd B ad H0 H1 σ D S1 fun o p => (q o p).mono (Xb.lz e1))) (post_xp q)
theorem sw_freeze {i : Nat} {xs : List PyData} (hi : G[i]? = some (.ow (ol xs))) (h : SW K cs W tu (G.set i (.d (.list xs))) Φ) (hx : ∀ e G', Φ (.ex e G') → True := by intros; trivial) : SW K cs W tu G Φ := fun Wd B ad H0 H σ D S q =>
  h Wd B ad H0 H σ D (S.freeze hi) fun o p => (q o p).mono (less_sub fun a z => Zs.set_of (fun _ z => by cases z) z)
/-! ### lists of one's own -/
theorem sw_app {i : Nat} {xs : List PyData} (hi : G[i]? = some (.ow (ol xs))) (hl : xs.length < 16000000) (h : EW K cs W te G (fun x => Φ (.nx (G.set i (.ow (ol (xs ++ [x])))))) (fun e => Φ (.ex e G))) : SW K cs W (tDrop (tBM K "list" rAppend (tVar i) (tCons te tNil))) G Φ := fun Wd B ad H0 H σ D S q => by
  obtain ⟨o, g1, rfl, vs, g3, g4⟩ := S.at_ i _ hi
  have g3 : H (ad i) = some (.lst vs) := g3
  refine ⟨_, g1, Or.inl ⟨rfl, vs, sq_of g3⟩, h Wd B ad H0 H σ S _ (fun x p v H1 S1 e1 d1 => ?_) (post_xp q)⟩
  obtain ⟨_, _, _, us, g5, g6⟩ := S1.at_ i _ hi
  have g6 : DpAll K _ us xs := g6
  exact ⟨_, us, v, rfl, rfl, g5, by rw [dpa_len g6]; exact Nat.lt_of_lt_of_le hl (by decide), q _ p ad _ σ (S1.chg (c' := ol (xs ++ [x])) hi (dpa_app g6 (.cons d1 .nil))) ((Xb.lz e1).trans (chg_ex hi))⟩
/-! ### what is forgotten -/
/-! ### targets -/
/-- targets that only set names: vs tells which -/
noncomputable def GC (K : Fg) (g : TG) (vs : List Nat) (G : Gam) (x : PyData) (γ : Gam → Prop) : Prop :=
  ∀ Wd B ad H0 H σ v, Sta K Wd B ad H0 H σ G → Dp K (less H (Zs Wd B ad G)) v x → ∀ Q : St → Hp → Prop,
  (∀ G' σ', γ G' → G.length = G'.length → (∀ i, i ∉ vs → G'[i]? = G[i]?) → (∀ i c, i ∈ vs → G'[i]? = some (.ow c) → G[i]? = some (.ow c)) → Sta K Wd B ad H0 H σ' G' → Ex (less H (Zs Wd B ad G)) (less H (Zs Wd B ad G')) → wipe σ' vs = wipe σ vs → Q σ' H) → g v σ H Q
noncomputable def GsC (K : Fg) (g : TGs) (vs : List Nat) (G : Gam) (xs : List PyData) (γ : Gam → Prop) : Prop :=
  ∀ Wd B ad H0 H σ us, Sta K Wd B ad H0 H σ G → DpAll K (less H (Zs Wd B ad G)) us xs → ∀ Q : St → Hp → Prop,
  (∀ G' σ', γ G' → G.length = G'.length → (∀ i, i ∉ vs → G'[i]? = G[i]?) → (∀ i c, i ∈ vs → G'[i]? = some (.ow c) → G[i]? = some (.ow c)) → Sta K Wd B ad H0 H σ' G' → Ex (less H (Zs Wd B ad G)) (less H (Zs Wd B ad G')) → wipe σ' vs = wipe σ vs → Q σ' H) → g us σ H Q
variable {γ : Gam → Prop} {vs : List Nat}
theorem gc_name {i : Nat} {x : PyData} (hi : i ∈ vs) (h : γ (G.set i (.d x))) : GC K (gName i) vs G x γ := fun Wd B ad H0 H σ v S d Q q => by
  refine q _ _ h (by rw [List.length_set]) (fun j hj => List.getElem?_set_ne fun (e : i = j) => hj (by rw [← e]; exact hi)) (fun j c _ g => ?_) (S.setD d) (less_sub fun a z => Zs.set_of (fun _ z => by cases z) z) (wipe_set hi)
  rcases get_set g with ⟨rfl, _, e⟩ | ⟨_, g⟩
  · cases e
  · exact g
theorem gsc_nil (h : γ G) : GsC K gNil vs G [] γ := fun Wd B ad H0 H σ us S d Q q => by
  cases d
  exact ⟨rfl, q _ _ h rfl (fun _ _ => rfl) (fun _ _ _ g => g) S (Ex.refl _) rfl⟩
theorem gsc_cons {g : TG} {gs : TGs} {x : PyData} {xs : List PyData} (h : GC K g vs G x (fun G' => GsC K gs vs G' xs γ)) : GsC K (gCons g gs) vs G (x :: xs) γ := fun Wd B ad H0 H σ us S d Q q => by
  cases d with
  | cons a b =>
    refine ⟨_, _, rfl, h Wd B ad H0 H σ _ S a _ fun G1 σ1 p l1 o1 w1 S1 e1 x1 => ?_⟩
    exact p Wd B ad H0 H σ1 _ S1 (dpa_mono e1 b) _ fun G2 σ2 p l2 o2 w2 S2 e2 x2 => q G2 σ2 p (l1.trans l2) (fun i hi => (o2 i hi).trans (o1 i hi)) (fun i c hi g => w1 i c hi (w2 i c hi g)) S2 (e1.trans e2) (x2.trans x1)
theorem gc_tup {n : Nat} {gs : TGs} {xs : List PyData} (hn : xs.length = n) (h : GsC K gs vs G xs γ) : GC K (gTup K n gs) vs G (.tuple xs) γ := fun Wd B ad H0 H σ v S d Q q => by
  cases d with
  | tup g t => exact ⟨_, _, rfl, ex_t less_ex g, (dpa_len t).trans hn, h Wd B ad H0 H σ _ S t Q q⟩
/-- targets at large -/
noncomputable def GW (K : Fg) (g : TG) (G : Gam) (x : PyData) (γ : Gam → Prop) : Prop :=
  ∀ Wd B ad H0 H σ v, Sta K Wd B ad H0 H σ G → Dp K (less H (Zs Wd B ad G)) v x → ∀ Q : St → Hp → Prop,
  (∀ G' ad' H' σ', γ G' → Sta K Wd B ad' H0 H' σ' G' → Ex (less H (Zs Wd B ad G)) (less H' (Zs Wd B ad' G')) → Q σ' H') → g v σ H Q
theorem gw_gc (vs : List Nat) {g : TG} {x : PyData} (h : GC K g vs G x γ) : GW K g G x γ := fun Wd B ad H0 H σ v S d Q q => h Wd B ad H0 H σ v S d Q fun G' σ' p _ _ _ S' e _ => q G' ad H σ' p S' e
theorem gw_name {i : Nat} {x : PyData} (h : γ (G.set i (.d x))) : GW K (gName i) G x γ := gw_gc [i] (gc_name (List.mem_singleton.mpr rfl) h)
theorem sw_asgT {g : TG} (h : EW K cs W te G (fun x => GW K g G x (fun G' => Φ (.nx G'))) (fun e => Φ (.ex e G))) : SW K cs W (tAsg te g) G Φ := fun Wd B ad H0 H σ D S q =>
  h Wd B ad H0 H σ S _ (fun x p v H1 S1 e1 d1 => p Wd B ad H0 H1 σ v S1 d1 _ fun G' ad' H' σ' p S' e' => q _ p ad' H' σ' S' ((Xb.lz e1).trans e')) (post_xp q)
/-! ### what is walked -/
theorem dp_itL {v : V} {ds : List PyData} {M : Hp} (d : Dp K M v (.list ds)) : ∃ a vs, v = .ref a ∧ SqL K M a vs ∧ ItOk K (Itl K a) ds M := qt_of (by simp (disch := with_unfolding_all
  cases d with
  | @lst a vs _ g t =>
    refine ⟨a, vs, rfl, g, fun H' Z hz e i => ?_⟩
    have g' : SqL K H' a vs := ex_l less_ex (ex_l e g)
    refine ⟨fun d hd => ?_, fun hl => ⟨vs, g', by rw [dpa_len t]; exact hl⟩, fun x H'' hy => ?_⟩
    · obtain ⟨v, hv, _⟩ := dpa_get t hd
      exact ⟨vs, v, g', hv⟩
    · obtain ⟨rfl, hy⟩ := hy
      refine ⟨Ex.refl _, fun d hd => ?_⟩
      obtain ⟨v, hv, hd⟩ := dpa_get t hd
      have ev : v = x := Option.some.inj (hv.symm.trans (hy vs g'))
      rw [← ev]
      exact dp_mono e hd
  ) only [↓qt_eq])
theorem iw_list (h : EW K cs W te G (fun x => ∃ ds, x = .list ds ∧ ι ds) ε) : IW K cs W (iList K te) G ι ε := fun Wd B ad H0 H σ S R q x => h Wd B ad H0 H σ S _ (fun y ⟨ds, e, p⟩ v H1 S1 e1 d1 => by
  subst e
  obtain ⟨a, vs, rfl, g, ok⟩ := dp_itL d1
  exact ⟨a, rfl, ⟨vs, ex_l less_ex g⟩, q ds p _ H1 S1 e1 ok⟩) x
theorem iw_rng1 {ta : TA} (h : AW K cs W ta G (fun xs => ∃ n : Int, xs = [.int n] ∧ (-1000000 ≤ n ∧ n ≤ 1000000) ∧ ι (rngD 0 n.toNat)) ε) : IW K cs W (iRng1 ta) G ι ε := fun Wd B ad H0 H σ S R q x => h Wd B ad H0 H σ S _ (fun xs ⟨n, e, hn, p⟩ vs H1 S1 e1 d1 => by
  subst e
  obtain ⟨v, rfl, d⟩ := dp1 d1
  cases d
  exact ⟨n, rfl, by omega, by omega, q _ p _ H1 S1 e1 it_rng⟩) x
/-! ### loops -/
/-- what is asked of a loop over ds: an invariant of the turn and the slots -/
noncomputable def ForI (K : Fg) (cs : Cs) (W : WX) (g : TG) (tb : TS) (G : Gam) (Φ : Out → Prop) (ds : List PyData) : Prop :=
  ∃ I : Nat → Gam → Prop, I 0 G ∧ (∀ i x G1, ds[i]? = some x → I i G1 → GW K g G1 x (fun Gt => SW K cs W tb Gt (lp (I (i + 1)) Φ))) ∧ ∀ G1, I ds.length G1 → Φ (.nx G1)
theorem sw_for {wi : TI} {g : TG} {tb : TS} (h : IW K cs W wi G (ForI K cs W g tb G Φ) (fun e => Φ (.ex e G))) : SW K cs W (tFor wi g tb) G Φ := fun Wd B ad H0 H σ D S q =>
  h Wd B ad H0 H σ S _ (fun ds ⟨I, i0, hs, hd⟩ J H1 S1 e1 ok => by
    refine ⟨fun i m σ' H' => m = ds.length - i ∧ i ≤ ds.length ∧ ∃ ad' G1, I i G1 ∧ Sta K Wd B ad' H0 H' σ' G1 ∧ Ex (less H1 (Zs Wd B ad G)) (less H' (Zs Wd B ad' G1)), ⟨ds.length, rfl, Nat.zero_le _, ad, G, i0, S1, Ex.refl _⟩, ?_⟩
    rintro i m σ' H' ⟨rfl, hi, ad', G1, hI, S', e'⟩
    obtain ⟨k1, k2, k3⟩ := ok H' (Zs Wd B ad' G1) S'.there e' i
    by_cases hlt : i < ds.length
    · have hx : ds[i]? = some ds[i] := List.getElem?_eq_getElem hlt
      refine .inr ⟨k1 _ hx, fun σ3 H3 => ∃ ad3 G3, I (i + 1) G3 ∧ Sta K Wd B ad3 H0 H3 σ3 G3 ∧ Ex (less H1 (Zs Wd B ad G)) (less H3 (Zs Wd B ad3 G3)), ?_, fun v H'' hy => ?_⟩
      · rintro σ3 H3 ⟨ad3, G3, h3, S3, e3⟩
        exact ⟨ds.length - (i + 1), by omega, rfl, hlt, ad3, G3, h3, S3, e3⟩
      · obtain ⟨ex, dx⟩ := k3 v H'' hy
        have S2 := S'.ext ex
        refine hs i _ G1 hx hI Wd B ad' H0 H'' σ' v S2 (dx _ hx) _ fun Gt ad2 H2 σ2 hb S3 e3 => ?_
        have e4 : Ex (less H1 (Zs Wd B ad G)) (less H2 (Zs Wd B ad2 Gt)) := (e'.trans (less_mono ex)).trans e3
        have e5 := (Xb.lz (W := Wd) (ad := ad) (G := G) e1).trans e4
        refine hb Wd B ad2 H0 H2 σ2 _ S3 fun o p => ?_
        cases o with
        | nx G4 => exact fun ad4 H4 σ4 S4 x4 => ⟨ad4, G4, p, S4, e4.trans x4⟩
        | ct G4 => exact fun ad4 H4 σ4 S4 x4 => ⟨ad4, G4, p, S4, e4.trans x4⟩
        | bk G4 => exact fun ad4 H4 σ4 S4 x4 => q _ p ad4 H4 σ4 S4 (e5.trans x4)
        | rt x => exact q _ p
        | rl c => exact q _ p
        | ex e G4 => exact fun d ad4 H4 σ4 S4 x4 => q _ p d ad4 H4 σ4 S4 (e5.trans x4)
    · have en : i = ds.length := by omega
      subst en
      exact .inl ⟨k2 (Nat.le_refl _), q _ (hd G1 hI) ad' H' σ' S' ((Xb.lz e1).trans e')⟩) (post_xp q)
/-- by what is done already -/
theorem forP {β : Type} {g : TG} {tb : TS} {xs : List β} {f : β → PyData} (I : List β → Gam → Prop) (h0 : I [] G) (hs : ∀ pre x post G1, xs = pre ++ x :: post → I pre G1 → GW K g G1 (f x) (fun Gt => SW K cs W tb Gt (lp (I (pre ++ [x])) Φ))) (he : ∀ G1, I xs G1 → Φ (.nx G1)) : ForI K cs W g tb G Φ (xs.map f) := by
  refine ⟨fun i G1 => I (xs.take i) G1, h0, fun i x G1 hx hI => ?_, fun G1 hI => he G1 (by rw [List.length_map, List.take_length] at hI; exact hI)⟩
  rw [List.getElem?_map] at hx
  cases hb : xs[i]? with
  | none => rw [hb] at hx; cases hx
  | some b =>
    rw [hb] at hx
    cases hx
    obtain ⟨hlt, hbe⟩ := List.getElem?_eq_some_iff.mp hb
    have e : xs = xs.take i ++ b :: xs.drop (i + 1) := by rw [← hbe, List.getElem_cons_drop, List.take_append_drop]
    have e2 : xs.take (i + 1) = xs.take i ++ [b] := by rw [List.take_succ, hb]; rfl
    show GW K g G1 (f b) (fun Gt => SW K cs W tb Gt (lp (fun G1 => I (xs.take (i + 1)) G1) Φ))
    rw [e2]
    exact hs _ b _ G1 e hI
end
end U.N

end
section
namespace U.N
open PySem PyProof.Rows L2 Evl
inductive All2 {α β : Type} (R : α → β → Prop) : List α → List β → Prop
  | nil : All2 R [] []
  | cons {x : α} {y : β} {xs : List α} {ys : List β} : R x y → All2 R xs ys → All2 R (x :: xs) (y :: ys)
namespace All2
variable {α β γ : Type} {R : α → β → Prop}
/-- y's that all are of one form -/
theorem exists_map {δ : Type} {g : δ → β} {P : α → δ → Prop} : ∀ {xs : List α} {ys : List β}, All2 (fun x y => ∃ d, y = g d ∧ P x d) xs ys → ∃ ds : List δ, ys = ds.map g ∧ All2 P xs ds
  | _, _, .nil => ⟨[], rfl, .nil⟩
  | _, _, .cons ⟨d, e, p⟩ t => by
    obtain ⟨ds, e2, p2⟩ := t.exists_map
    exact ⟨d :: ds, by rw [e, e2]; rfl, .cons p p2⟩
end All2
section
variable {K : Fg} {cs : Cs} {W : WX} {G G' G1 G2 : Gam} {ta tb tc te : TE} {t u tt tt1 : TT} {φ : PyData → Prop} {ε : Xw → Prop} {ψ : Bool → Prop} {α : List PyData → Prop} {ι : List PyData → Prop} {χ : Own → Prop} {Φ Ψ : Out → Prop}
variable {Wd : Addr → Prop} {B : Bt} {ad : Nat → Addr} {H0 H H1 H2 : Hp} {σ σ' : St} {vs vs1 : List Nat} {wi wi1 : TI} {g g1 : TG}
noncomputable abbrev noX : Xw → Prop := fun _ => False
theorem xp_no : XP K cs W Wd B ad H0 H σ G noX := fun _ h => h.elim
theorem Sta.slots (S : Sta K Wd B ad H0 H σ G) (hl : G.length = G'.length) (ho : ∀ i, i ∉ vs → G'[i]? = G[i]?) (hu : ∀ i e, i ∈ vs → G'[i]? = some e → e = .un) (hg : ∀ i c, i ∈ vs → G[i]? ≠ some (.ow c)) (hw : wipe σ vs = wipe σ' vs) : Sta K Wd B ad H0 H σ' G' := qt_of (by simp (disch := with_unfolding_all
  have hls : σ.length = σ'.length := by
    have := congrArg List.length hw
    rw [wipe_length, wipe_length] at this
    exact this
  have own : ∀ (i : Nat) (c : Own), G'[i]? = some (En.ow c) ↔ G[i]? = some (En.ow c) := fun i c => by
    by_cases hi : i ∈ vs
    · exact ⟨fun g => absurd (hu i _ hi g) (fun e => by cases e), fun g => absurd g (hg i c hi)⟩
    · rw [ho i hi]
  have zl : Zs Wd B ad G' = Zs Wd B ad G := funext fun a => propext (by
    constructor
    · rintro (z | ⟨i, c, g, r⟩ | z)
      · exact .inl z
      · exact .inr (.inl ⟨i, c, (own i c).mp g, r⟩)
      · exact .inr (.inr z)
    · rintro (z | ⟨i, c, g, r⟩ | z)
      · exact .inl z
      · exact .inr (.inl ⟨i, c, (own i c).mpr g, r⟩)
      · exact .inr (.inr z))
  refine ⟨hls ▸ (S.len.trans hl), fun i e g => ?_, fun i j c c' g g' q => S.inj i j c c' ((own i c).mp g) ((own j c').mp g') q, fun i c g => S.sep i c ((own i c).mp g), S.base, S.bag, S.wd, fun p hp => (S.tab p hp).mono (by rw [zl]; exact Ex.refl _) rfl⟩
  by_cases hi : i ∈ vs
  · have e := hu i e hi g
    subst e
    have il : i < σ'.length := by rw [← hls, S.len, hl]; exact (List.getElem?_eq_some_iff.mp g).1
    exact ⟨σ'[i], List.getElem?_eq_getElem il, trivial⟩
  · rw [ho i hi] at g
    obtain ⟨o, g1, g2⟩ := S.at_ i e g
    refine ⟨o, ?_, by rw [zl]; exact g2⟩
    rw [← wipe_get hi, ← hw, wipe_get hi]
    exact g1
  ) only [↓qt_eq])
theorem zs_same {G' : Gam} (hl : ∀ (i : Nat) (c : Own), G'[i]? = some (En.ow c) ↔ G[i]? = some (En.ow c)) : Zs Wd B ad G' = Zs Wd B ad G := funext fun a => propext (by
  constructor
  · rintro (z | ⟨i, c, g, r⟩ | z)
    · exact .inl z
    · exact .inr (.inl ⟨i, c, (hl i c).mp g, r⟩)
    · exact .inr (.inr z)
  · rintro (z | ⟨i, c, g, r⟩ | z)
    · exact .inl z
    · exact .inr (.inl ⟨i, c, (hl i c).mpr g, r⟩)
    · exact .inr (.inr z))
theorem zs_lend {p : Addr} : Zs (fun a => Wd a ∨ a = p) B ad G = fun a => Zs Wd B ad G a ∨ a = p := funext fun a => propext (by
  constructor
  · rintro ((z | z) | z | z)
    · exact .inl (.inl z)
    · exact .inr z
    · exact .inl (.inr (.inl z))
    · exact .inl (.inr (.inr z))
  · rintro ((z | z | z) | z)
    · exact .inl (.inl z)
    · exact .inr (.inl z)
    · exact .inr (.inr z)
    · exact .inl (.inr z))
noncomputable def opts (os : List (Option PyData)) : List PyData := os.filterMap id
theorem opts_snoc {os : List (Option PyData)} {o : Option PyData} : opts (os ++ [o]) = opts os ++ o.toList := by
  unfold opts
  rw [List.filterMap_append]
  cases o <;> rfl
theorem opts_len (os : List (Option PyData)) : (opts os).length ≤ os.length := List.length_filterMap_le ..
/-- one for each turn -/
noncomputable def Each {β : Type} (R : Nat → β → Prop) (n : Nat) (os : List β) : Prop := os.length = n ∧ ∀ i o, os[i]? = some o → R i o
theorem each_nil {β : Type} {R : Nat → β → Prop} : Each R 0 [] := ⟨rfl, fun i o h => by simp at h⟩
theorem Each.snoc {β : Type} {R : Nat → β → Prop} {n : Nat} {os : List β} {o : β} (h : Each R n os) (r : R n o) : Each R (n + 1) (os ++ [o]) := by
  refine ⟨by simp [h.1], fun i o' hi => ?_⟩
  by_cases hl : i < os.length
  · rw [List.getElem?_append_left hl] at hi
    exact h.2 i o' hi
  · rw [List.getElem?_append_right (by omega)] at hi
    have e : i - os.length = 0 := by
      have := (List.getElem?_eq_some_iff.mp hi).1
      simp at this
      omega
    rw [e] at hi
    cases hi
    have : i = n := by have := h.1; omega
    rw [this]; exact r
theorem Each.all2 {α β : Type} {R : Nat → β → Prop} : ∀ {xs : List α} {os : List β}, Each R xs.length os → ∀ {S : α → β → Prop}, (∀ i x o, xs[i]? = some x → R i o → S x o) → All2 S xs os := fun {xs} => by
  induction xs generalizing R with
  | nil =>
    intro os h S m
    have := h.1
    have e : os = [] := List.eq_nil_of_length_eq_zero this
    rw [e]; exact .nil
  | cons x xs ih =>
    intro os h S m
    cases os with
    | nil => have := h.1; simp at this
    | cons o os =>
      refine .cons (m 0 x o rfl (h.2 0 o rfl)) (ih (R := fun i => R (i + 1)) ⟨by have := h.1; simpa using this, fun i o' hi => h.2 (i + 1) o' hi⟩ fun i x o hx r => m (i + 1) x o hx r)
/-- the names that the comprehension sets are of no use before -/
noncomputable def Unk (vs : List Nat) (G : Gam) : Prop := ∀ i e, i ∈ vs → G[i]? = some e → e = .un
noncomputable def LcI (K : Fg) (cs : Cs) (W : WX) (g : TG) (tt : TT) (te : TE) (vs : List Nat) (G : Gam) (χ : Own → Prop) (ds : List PyData) : Prop :=
  ds.length ≤ 16000000 ∧ Unk vs G ∧ ∃ R : Nat → Option PyData → Prop, (∀ i x, ds[i]? = some x → GC K g vs G x (fun Gt => TW K cs W tt Gt (fun b => Cnd b (EW K cs W te Gt (fun y => R i (some y)) noX) (R i none)) noX)) ∧ ∀ os, Each R ds.length os → χ (ol (opts os))
theorem ef_lc (h : IW K cs W wi G (LcI K cs W g tt te vs G χ) ε) : EF K cs W (tLc wi g tt te vs) G χ ε := fun Wd B ad H0 H σ S Q q x =>
  h Wd B ad H0 H σ S _ (fun ds ⟨hz, hu, R, hs, hd⟩ J H1 S1 e1 ok Dl hD => by
    have hgu : ∀ i c, i ∈ vs → G[i]? ≠ some (.ow c) := fun i c hi g => by cases hu i _ hi g
    obtain ⟨L0, el0⟩ := S1.lend (o := .lst []) hD
    have fr := S1.fresh hD
    refine ⟨fun i m H' => m = ds.length - i ∧ i ≤ ds.length ∧ Sta K (fun a => Wd a ∨ a = Dl) B ad H0 H' σ G ∧ Ex (less H1 (Zs Wd B ad G)) (less H' (Zs (fun a => Wd a ∨ a = Dl) B ad G)) ∧ Xb B H1 H' ∧
      ∃ os acc, Each R i os ∧ H' Dl = some (.lst acc) ∧ DpAll K (less H' (Zs (fun a => Wd a ∨ a = Dl) B ad G)) acc (opts os), ⟨ds.length, rfl, Nat.zero_le _, L0, by rw [el0]; exact Ex.refl _, .of (Ex.new hD), [], [], each_nil, upd_same, .nil⟩, ?_⟩
    rintro i m H' ⟨rfl, hi, S', e', xb, os, acc, ha2, ha, hda⟩
    obtain ⟨k1, k2, k3⟩ := ok H' (Zs (fun a => Wd a ∨ a = Dl) B ad G) S'.there e' i
    by_cases hlt : i < ds.length
    · have hx : ds[i]? = some ds[i] := List.getElem?_eq_getElem hlt
      refine .inr ⟨k1 _ hx, fun H3 => Sta K (fun a => Wd a ∨ a = Dl) B ad H0 H3 σ G ∧ Ex (less H1 (Zs Wd B ad G)) (less H3 (Zs (fun a => Wd a ∨ a = Dl) B ad G)) ∧ Xb B H1 H3 ∧
        ∃ os acc, Each R (i + 1) os ∧ H3 Dl = some (.lst acc) ∧ DpAll K (less H3 (Zs (fun a => Wd a ∨ a = Dl) B ad G)) acc (opts os), fun H3 h3 => ⟨ds.length - (i + 1), by omega, rfl, hlt, h3⟩, fun v H'' hyl => ?_⟩
      obtain ⟨ex, dx⟩ := k3 v H'' hyl
      have S2 := (S'.ext ex).slots (σ' := wipe σ vs) (G' := G) (vs := vs) rfl (fun _ _ => rfl) hu hgu wipe_wipe.symm
      refine hs i _ hx _ B ad H0 H'' _ v S2 (dx _ hx) _ fun Gt σ2 hte hl ho hw S3 e3 ew => ⟨by rw [ew, wipe_wipe], ?_⟩
      have own : ∀ (i : Nat) (c : Own), Gt[i]? = some (En.ow c) ↔ G[i]? = some (En.ow c) := fun i c => by
        by_cases hi : i ∈ vs
        · exact ⟨fun g => hw i c hi g, fun g => absurd g (hgu i c hi)⟩
        · rw [ho i hi]
      have eZ : Zs (fun a => Wd a ∨ a = Dl) B ad Gt = Zs (fun a => Wd a ∨ a = Dl) B ad G := zs_same own
      have back : ∀ {H5 : Hp}, Sta K (fun a => Wd a ∨ a = Dl) B ad H0 H5 σ2 Gt → Sta K (fun a => Wd a ∨ a = Dl) B ad H0 H5 σ G := fun {H5} S5 =>
        S5.slots (G' := G) (vs := vs) hl.symm (fun i hi => (ho i hi).symm) hu (fun i c hi g => hgu i c hi (hw i c hi g)) (by rw [ew, wipe_wipe])
      have hB : ¬ InB B Dl := fr.2.1
      have ha3 : H'' Dl = some (.lst acc) := ex _ _ ha
      have al : acc.length < sizeLine := by
        have h1 := dpa_len hda
        have h2 := opts_len os
        have h3 := ha2.1
        exact Nat.lt_of_lt_of_le (show acc.length < 16777216 by omega) (by decide)
      refine hte _ B ad H0 H'' σ2 S3 _ (fun b p H3 S4 e4 => ?_) xp_no
      have e4' : Ex (less H'' (Zs (fun a => Wd a ∨ a = Dl) B ad G)) (less H3 (Zs (fun a => Wd a ∨ a = Dl) B ad G)) := by
        have := Xb.lz (W := fun a => Wd a ∨ a = Dl) (ad := ad) (G := G) e4
        exact this
      have e5 : Ex (less H' (Zs (fun a => Wd a ∨ a = Dl) B ad G)) (less H3 (Zs (fun a => Wd a ∨ a = Dl) B ad G)) := (less_mono ex).trans e4'
      cases b with
      | false =>
        refine iteF ⟨back S4, e'.trans e5, (xb.trans (.of ex)).trans e4, os ++ [none], acc, ?_, e4 _ _ ha3 hB, ?_⟩
        · exact ha2.snoc (p.2 rfl)
        · rw [opts_snoc]
          show DpAll K _ acc (_ ++ [])
          rw [List.append_nil]
          exact dpa_mono e5 hda
      | true =>
        refine iteT ?_
        refine p.1 rfl _ B ad H0 H3 σ2 S4 _ (fun y py w H4 S5 e6 dw => ?_) xp_no
        rw [eZ] at dw
        have S6 := back S5
        obtain ⟨S7, el7⟩ := S6.foreign (o := .lst (acc ++ [w])) (p := Dl) (.inr rfl) fr.1 hB
        have e6' := Xb.lz (W := fun a => Wd a ∨ a = Dl) (ad := ad) (G := G) e6
        refine ⟨acc, e6 _ _ (e4 _ _ ha3 hB) hB, al, S7, ?_, ?_, os ++ [some y], acc ++ [w], ?_, upd_same, ?_⟩
        · rw [el7]
          exact e'.trans (e5.trans e6')
        · intro a o g n
          have na : a ≠ Dl := ne_of_none g hD
          rw [upd_ne na]
          exact ((((xb.trans (.of ex)).trans e4).trans e6) a o g n)
        · exact ha2.snoc py
        · rw [el7, opts_snoc]
          exact dpa_app (dpa_mono (e5.trans e6') hda) (.cons dw .nil)
    · have en : i = ds.length := by omega
      subst en
      obtain ⟨S5, e5⟩ := S'.back
      obtain ⟨S6, x6, n6, l6⟩ := fl_go S1 xb S'.bag (fun p hp => (S'.tab p hp).mono (less_sub fun b z => z.elim (fun z => z.elim (fun z => .inl (.inl z)) .inr) fun z => .inl (.inr z)) rfl) hD ha
      refine .inl ⟨k2 (Nat.le_refl _), ?_⟩
      have k := q _ (hd os ha2) Dl acc _ S6 (e1.trans x6) n6 (by rw [l6, ← zs_lend]; exact hda)
      have k2 : Q (.ref Dl) (upd (less H' fun b => b = Dl) Dl (.lst acc)) := k
      rw [fl_upd ha] at k2
      exact k2) x
theorem ew_lc (h : IW K cs W wi G (LcI K cs W g tt te vs G (fun c => ∃ xs, c = ol xs ∧ φ (.list xs))) ε) : EW K cs W (tLc wi g tt te vs) G φ ε := ew_ef (ef_lc h)
theorem opts_map {β : Type} {f : β → PyData} : ∀ {xs : List β} {os : List (Option PyData)}, All2 (fun x o => o = some (f x)) xs os → opts os = xs.map f
  | _, _, .nil => rfl
  | x :: xs, _, .cons a t => by
    rw [a]
    show f x :: opts _ = _
    rw [opts_map t]; rfl
theorem opts_filter {β : Type} {p : β → Bool} {f : β → PyData} : ∀ {xs : List β} {os : List (Option PyData)}, All2 (fun x o => o = if p x then some (f x) else none) xs os → opts os = (xs.filter p).map f
  | _, _, .nil => rfl
  | x :: xs, _, .cons a t => by
    have ih := opts_filter t
    cases h : p x with
    | true =>
      rw [a, List.filter_cons, h, if_pos rfl, if_pos rfl]
      show f x :: opts _ = _
      rw [ih]; rfl
    | false =>
      rw [a, List.filter_cons, h, if_neg (by decide), if_neg (by decide)]
      show opts _ = _
      exact ih
variable {β : Type} {xs : List β} {f : β → PyData}
theorem map_at {i : Nat} {x : PyData} (h : (xs.map f)[i]? = some x) : ∃ b, xs[i]? = some b ∧ f b = x ∧ b ∈ xs := by
  rw [List.getElem?_map] at h
  cases hb : xs[i]? with
  | none => rw [hb] at h; cases h
  | some b => rw [hb] at h; exact ⟨b, rfl, Option.some.inj h, List.mem_of_getElem? hb⟩
theorem gc_mono {x : PyData} {γ γ' : Gam → Prop} (h : GC K g vs G x γ) (m : ∀ G', γ G' → γ' G') : GC K g vs G x γ' := fun Wd B ad H0 H σ v S d Q q => h Wd B ad H0 H σ v S d Q fun G' σ' k => q G' σ' (m G' k)
/-- [.. for x in xs if ..], each turn by a relation -/
theorem lcR0 (R : β → Option PyData → Prop) (hz : xs.length ≤ 16000000) (hu : Unk vs G) (hs : ∀ x, x ∈ xs → GC K g vs G (f x) (fun Gt => TW K cs W tt Gt (fun b => Cnd b (EW K cs W te Gt (fun y => R x (some y)) noX) (R x none)) noX)) (p : ∀ os, All2 R xs os → χ (ol (opts os))) : LcI K cs W g tt te vs G χ (xs.map f) := by
  refine ⟨by rw [List.length_map]; exact hz, hu, fun i o => ∃ b, xs[i]? = some b ∧ R b o, fun i x hx => ?_, fun os ha => ?_⟩
  · obtain ⟨b, hb, rfl, hm⟩ := map_at hx
    exact gc_mono (hs b hm) fun Gt k => tw_mono k fun c q => ⟨fun hc => ew_mono (q.1 hc) fun y r => ⟨b, hb, r⟩, fun hc => ⟨b, hb, q.2 hc⟩⟩
  · rw [List.length_map] at ha
    exact p os (ha.all2 fun i x o hx ⟨b, hb, r⟩ => by rw [hx] at hb; cases hb; exact r)
/-- [h x for x in xs] -/
theorem lcM (h : β → PyData) (hz : xs.length ≤ 16000000) (hu : Unk vs G) (hs : ∀ x, x ∈ xs → GC K g vs G (f x) (fun Gt => EW K cs W te Gt (fun y => y = h x) noX)) (p : χ (ol (xs.map h))) : LcI K cs W g tYes te vs G χ (xs.map f) :=
  lcR0 (fun x o => o = some (h x)) hz hu (fun x hx => gc_mono (hs x hx) fun Gt k => tw_yes (cnd_t (ew_mono k fun y e => by rw [e]))) fun os ha => by rw [opts_map ha]; exact p
/-- [h x for x in xs if p x] -/
theorem lcF (pt : β → Bool) (h : β → PyData) (hz : xs.length ≤ 16000000) (hu : Unk vs G) (hs : ∀ x, x ∈ xs → GC K g vs G (f x) (fun Gt => TW K cs W tt Gt (fun b => b = pt x ∧ (b = true → EW K cs W te Gt (fun y => y = h x) noX)) noX)) (p : χ (ol ((xs.filter pt).map h))) : LcI K cs W g tt te vs G χ (xs.map f) :=
  lcR0 (fun x o => o = if pt x then some (h x) else none) hz hu (fun x hx => gc_mono (hs x hx) fun Gt k => tw_mono k fun b ⟨e, q⟩ => ⟨fun hb => ew_mono (q hb) fun y ey => by rw [← e, hb, ey]; rfl, fun hb => by rw [← e, hb]; rfl⟩) fun os ha => by rw [opts_filter ha]; exact p
end
end U.N

end
section
namespace U.N
open PySem PyProof.Rows L2 Evl
section
variable {K : Fg} {cs : Cs} {W : WX} {G G' G1 G2 : Gam} {ta tb tc te : TE} {φ : PyData → Prop} {ε : Xw → Prop} {Φ Ψ : Out → Prop}
variable {Wd : Addr → Prop} {B : Bt} {ad : Nat → Addr} {H0 H H1 H2 : Hp} {σ σ' : St}
/-! ### raising -/
theorem ew_xf {i : Nat} {a dd C : Addr} {fs : List (Str × V)} {n : Str} {v : V} {x : PyData} (hi : G[i]? = some (.xc a dd fs)) (hl : fs.lookup n = some v) (hd : ∀ H, Dp K H v x) (p : φ x) : EW K cs W (tXf a (.ref C) (some dd) C n (tVar i)) G φ ε := fun Wd B ad H0 H σ S Q q _ => by
  obtain ⟨o, g1, rfl, g2⟩ := S.at_ i _ hi
  exact ⟨_, g1, rfl, rfl, dd, fs, v, rfl, (less_some g2).2, hl, q _ p _ H S Xb.refl (hd _)⟩
theorem ew_xfS {i : Nat} {a dd C : Addr} {fs : List (Str × V)} {n : Str} {v : Str} (hi : G[i]? = some (.xc a dd fs)) (hl : fs.lookup n = some (.str v)) (p : φ (.str v)) : EW K cs W (tXf a (.ref C) (some dd) C n (tVar i)) G φ ε := ew_xf hi hl (fun _ => .str v) p
theorem sw_raise0 {c : Str} {nm : List Str} {g : List V → Option (List (Str × V))} {fs : List (Str × V)} (cf : ClsF K cs c nm) (hg : g [] = some fs) (h : Φ (.ex ⟨c, fs⟩ G)) : SW K cs W (tRaiseX (cs c) (spIn K nm g) [] tNil W) G Φ := fun Wd B ad H0 H σ D S q => by
  refine mk_read cf.ox cf.no ⟨by show 0 ≤ 1000; decide, hg, fun d hd => ?_⟩ (fun Q1 Q2 m h => m _ _ h)
  have e : Ex H (upd H d (.xd fs)) := Ex.new hd
  exact q _ h d ad _ σ (S.ext e) (less_mono e) (S.fresh hd).1 (less_of (S.fresh hd).2.2 upd_same)
/-- scalars as they stand -/
noncomputable def scV : PyData → Option V
  | .int i => some (.int i)
  | .str x => some (.str x)
  | .bool b => some (.bl b)
  | .none => some .non
  | _ => none
theorem sc_v {v : V} {x : PyData} {u : V} (d : Dp K H v x) (h : scV x = some u) : v = u := by
  cases d <;> first | (cases h; done) | (cases h; rfl)
theorem sw_raise1 {c : Str} {nm : List Str} {g : List V → Option (List (Str × V))} {te : TE} (cf : ClsF K cs c nm) (h : EW K cs W te G (fun x => ∃ u fs, scV x = some u ∧ g [u] = some fs ∧ Φ (.ex ⟨c, fs⟩ G)) (fun e => Φ (.ex e G))) : SW K cs W (tRaiseX (cs c) (spIn K nm g) [] (tCons te tNil) W) G Φ := fun Wd B ad H0 H σ D S q => by
  refine h Wd B ad H0 H σ S _ (fun x ⟨u, fs, hu, hg, p⟩ v H1 S1 e1 d1 => ?_) (post_xp q)
  have ev := sc_v d1 hu
  subst ev
  refine show tMkX (cs c) (spIn K nm g) [] (fun _ H Q => Q [v] H) σ H1 (fun cls d H' => W cls d σ H') from mk_read (ta := fun _ H Q => Q [v] H) cf.ox cf.no ⟨by show 1 ≤ 1000; decide, hg, fun d hd => ?_⟩ (fun Q1 Q2 m h => m _ _ h)
  have e : Ex H1 (upd H1 d (.xd fs)) := Ex.new hd
  exact q _ p d ad _ σ (S1.ext e) ((Xb.lz e1).trans (less_mono e)) (S1.fresh hd).1 (less_of (S1.fresh hd).2.2 upd_same)
/-! ### try .. except C as why -/
noncomputable def hq (i : Nat) (Φ : Out → Prop) : Out → Prop
  | .nx G => Φ (.nx (G.set i .un))
  | .bk G => Φ (.bk (G.set i .un))
  | .ct G => Φ (.ct (G.set i .un))
  | .rt x => Φ (.rt x)
  | .rl c => Φ (.rl c)
  | .ex _ _ => False
theorem un_ex {i : Nat} : Ex (less H (Zs Wd B ad G)) (less H (Zs Wd B ad (G.set i .un))) := less_sub fun a z => Zs.set_of (fun _ z => by cases z) z
end
/-! ### several clauses -/
noncomputable def hdN (K : Fg) (cs : Cs) (W : WX) (Φ : Out → Prop) : List Hd → Xw → Gam → Prop
  | [], _, _ => False
  | (c, i, ts) :: r, e, G => ∃ b, PySem.W.exmOne K (.ref (cs e.cls)) c = some b ∧ Cnd b (∀ a d, SW K cs W (ts a (.ref (cs e.cls)) (some d)) (G.set i (.xc a d e.fs)) (hq i Φ)) (hdN K cs W Φ r e G)
noncomputable def tqN (K : Fg) (cs : Cs) (W : WX) (l : List Hd) (Φ : Out → Prop) : Out → Prop
  | .ex e G => hdN K cs W Φ l e G
  | .nx G => Φ (.nx G)
  | .bk G => Φ (.bk G)
  | .ct G => Φ (.ct G)
  | .rt x => Φ (.rt x)
  | .rl c => Φ (.rl c)
section
variable {K : Fg} {cs : Cs} {W : WX} {G : Gam} {Φ : Out → Prop}
theorem sw_tryN {tb : WX → TS} {l : List Hd} (h : ∀ W', SW K cs W' (tb W') G (tqN K cs W l Φ)) : SW K cs W (tTryN K tb l) G Φ := fun Wd B ad H0 H σ D S q => by
  refine h _ Wd B ad H0 H σ D S fun o p => ?_
  cases o with
  | nx G1 => exact q _ p
  | bk G1 => exact q _ p
  | ct G1 => exact q _ p
  | rt x => exact q _ p
  | rl x => exact q _ p
  | ex e G1 =>
    intro d ad1 H1 σ1 S1 e1 hn hx
    have p : hdN K cs W Φ l e G1 := p
    show wManyAs K (fun _ _ _ _ => False) D l (.ref (cs e.cls)) (some d) σ1 H1
    clear h
    induction l with
    | nil => exact p.elim
    | cons x r ih =>
      obtain ⟨c, i, ts⟩ := x
      obtain ⟨b, hm, p⟩ := p
      refine ⟨b, hm, fun hb a ha => ?_, fun hb => ih (p.2 hb) (p.2 hb)⟩
      have S2 : Sta K Wd B ad1 H0 H1 (σ1.set i (some (.ref a))) (G1.set i (.xc a d e.fs)) := S1.set (fun _ z => by cases z) ⟨rfl, hx⟩
      have e2 : Ex (less H (Zs Wd B ad G)) (less H1 (Zs Wd B ad1 (G1.set i (.xc a d e.fs)))) := e1.trans (less_sub fun a z => Zs.set_of (fun _ z => by cases z) z)
      refine p.1 hb a d Wd B ad1 H0 H1 _ _ S2 fun o po => ?_
      cases o with
      | nx G3 => exact fun ad3 H3 σ3 S3 e3 => q _ po ad3 H3 _ S3.setU ((e2.trans e3).trans un_ex)
      | bk G3 => exact fun ad3 H3 σ3 S3 e3 => q _ po ad3 H3 _ S3.setU ((e2.trans e3).trans un_ex)
      | ct G3 => exact fun ad3 H3 σ3 S3 e3 => q _ po ad3 H3 _ S3.setU ((e2.trans e3).trans un_ex)
      | rt x => exact q _ po
      | rl x => exact q _ po
      | ex e G3 => exact po.elim
end
/-! ### defs -/
noncomputable def rts0 (A : Rs → Prop) : Out → Prop
  | .rt x => A (.ok x)
  | .rl c => A (.fl c)
  | .nx _ => A (.ok .none)
  | _ => False
noncomputable def rts (A : Rs → Prop) : Out → Prop
  | .rt x => A (.ok x)
  | .rl c => A (.fl c)
  | .nx _ => A (.ok .none)
  | .ex e _ => A (.er e)
  | _ => False
noncomputable def frame (n : Nat) (ds : List PyData) : Gam := ds.map .d ++ List.replicate (n - ds.length) .un
section
variable {Pg : Program} {w : World} {K : Fg} {mg : Str → Option Value} {base : Heap} {cs : Cs}
theorem frame_get {n i : Nat} {ds : List PyData} {e : En} (h : (frame n ds)[i]? = some e) : (∃ d, ds[i]? = some d ∧ e = .d d) ∨ (ds.length ≤ i ∧ e = .un) := qt_of (by simp (disch := with_unfolding_all
  unfold frame at h
  by_cases hi : i < ds.length
  · rw [List.getElem?_append_left (by rw [List.length_map]; exact hi), List.getElem?_map, List.getElem?_eq_getElem hi] at h
    exact .inl ⟨ds[i], List.getElem?_eq_getElem hi, (Option.some.inj h).symm⟩
  · have hi : ds.length ≤ i := by omega
    rw [List.getElem?_append_right (by rw [List.length_map]; exact hi)] at h
    exact .inr ⟨hi, (List.mem_replicate.mp (List.mem_of_getElem? h)).2⟩
  ) only [↓qt_eq])
theorem frame_len {n : Nat} {ds : List PyData} : (frame n ds).length = ds.length + (n - ds.length) := by
  unfold frame
  rw [List.length_append, List.length_map, List.length_replicate]
theorem bag_ok0 : Bag.ok ⟨[], 0, 0⟩ := ⟨by simp, by decide, by decide⟩
/-- the state at a def's entry -/
theorem sta0 {N : List Str} {Wd : Addr → Prop} {H : Hp} {vs : List V} {ds : List PyData} (hW : ∀ a, Wd a → ∃ o, H a = some o) (hd : DpAll K (less H Wd) vs ds) : Sta K Wd noB (fun _ => 0) H H (L2.start N vs) (frame N.length ds) := qt_of (by simp (disch := with_unfolding_all
  have no : ∀ (i : Nat) (c : Own), (frame N.length ds)[i]? ≠ some (En.ow c) := fun i c h => by
    rcases frame_get h with ⟨d, _, e⟩ | ⟨_, e⟩ <;> cases e
  have zz : ∀ a, Zs Wd noB (fun _ => 0) (frame N.length ds) a → Wd a := by
    rintro a (z | ⟨i, c, g, _⟩ | ⟨b, c, z, _⟩ | ⟨p, hp, _⟩)
    · exact z
    · exact absurd g (no i c)
    · cases z
    · cases hp
  refine ⟨?_, fun i e h => ?_, fun i j c c' g => absurd g (no i c), fun i c g => absurd g (no i c), fun a o h _ => h, ⟨⟨_, bag_ok0, trivial⟩, fun p hp => nomatch hp⟩, hW, fun p hp => nomatch hp⟩
  · rw [start_len, dpa_len hd, frame_len]
  · rcases frame_get h with ⟨d, hi, rfl⟩ | ⟨hi, rfl⟩
    · obtain ⟨v, hv, dv⟩ := dpa_get hd hi
      exact ⟨some v, start_get hv, v, rfl, dp_mono (less_sub zz) dv⟩
    · have il : i < (L2.start N vs).length := by
        rw [start_len, dpa_len hd]
        have := (List.getElem?_eq_some_iff.mp h).1
        rw [frame_len] at this
        exact this
      exact ⟨(L2.start N vs)[i], List.getElem?_eq_getElem il, trivial⟩
  ) only [↓qt_eq])
theorem inb_none {a : Addr} : ¬ InB noB a := fun z => by
  rcases z with ⟨_, _, z, _⟩ | ⟨p, hp, _⟩
  · cases z
  · cases hp
theorem xb_none {H H' : Hp} (h : Xb noB H H') : Ex H H' := fun a o g => h a o g inb_none
theorem sz_none {Wd : Addr → Prop} {H : Hp} : (less H fun a => Wd a ∨ InB noB a) = less H Wd := congrArg (less H) (funext fun a => propext ⟨fun z => z.elim id fun z => absurd z inb_none, Or.inl⟩)
theorem run0 {N : List Str} {Wd : Addr → Prop} {H : Hp} {vs : List V} {ds : List PyData} {A : Rs → Prop} {t : TS} {Q : VK} (hW : ∀ a, Wd a → ∃ o, H a = some o) (hd : DpAll K (less H Wd) vs ds) (h : SW K cs W0 t (frame N.length ds) (rts0 A)) (q : okRs H K Wd Q A) :
    t { nx := fun _ H' => Q .non H', rt := Q } (L2.start N vs) H := qt_of (by simp (disch := with_unfolding_all
  refine h Wd noB (fun _ => 0) H H _ _ (sta0 hW hd) fun o p => ?_
  cases o with
  | rt x => exact fun v H' e _ _ d => q.1 x p v H' (xb_none e) (by rw [sz_none] at d; exact d)
  | rl c => exact fun a us H' e _ _ hn ho d => q.2 c p a us H' (xb_none e) hn ho (dpa_mono (less_sub fun b z => by rcases z with z | z; exact .inl (.inl z); exact .inr z) d)
  | nx G => exact fun ad H' σ S _ => q.1 _ p _ H' (xb_none fun a o h n => S.base a o h n) .non
  | bk G => exact p.elim
  | ct G => exact p.elim
  | ex e G => exact p.elim
  ) only [↓qt_eq])
/-- a def that never raises -/
theorem okW {x qual : Str} {st : Stmt} {f : Addr} {fd : FuncData} {N ps : List Str} {k : Nat} {P : Pr} (cs : Cs) (F : Fun K x qual st f fd) (S : FnScope N ps (defScope st)) (hl : ∀ ds A, P ds A → ds.length = ps.length)
    (hb : ∀ ds A, P ds A → ∀ (cdv : Value) (Ar : Around) (outer : List Env) (sh : Shared) (H : Hp) (E : XK), Room k (Ar.deeper (envOfC qual (defScope st) sh.heap.objs.size f cdv)) →
      ∃ t, PSs (cxOf CX0 Pg w K mg base N qual (defScope st) f cdv Ar outer sh H E).nox (defBody st) t ∧ SW K cs W0 t (frame N.length ds) (rts0 A)) : FnOk Pg w K mg base CX0 (k + 1) f fd ps (spW0 K P) := qt_of (by simp (disch := with_unfolding_all
  refine F.ok S (fun vs H Q E h => ?_) (fun cdv Ar outer sh H vs Q E hr h => ?_)
  · obtain ⟨Wd, ds, A, _, hd, hp, _⟩ := h
    rw [dpa_len hd]
    exact hl ds A hp
  · obtain ⟨Wd, ds, A, hW, hd, hp, q⟩ := h
    obtain ⟨t, ht, g⟩ := hb ds A hp cdv Ar outer sh H E hr
    exact ⟨t, ht, run0 hW hd g q⟩
  ) only [↓qt_eq])
theorem staB {N : List Str} {Wd : Addr → Prop} {H : Hp} {b c : Addr} {vs : List V} {ds : List PyData} (hW : ∀ a, Wd a → ∃ o, H a = some o) (hB : BagOk H (bgB b c)) (hd : DpAll K (less H fun a => Wd a ∨ InB (bgB b c) a) vs ds) :
    Sta K Wd (bgB b c) (fun _ => 0) H H (L2.start N (.ref b :: vs)) (.bag :: frame (N.length - 1) ds) := qt_of (by simp (disch := with_unfolding_all
  have no : ∀ (i : Nat) (l : Own), (En.bag :: frame (N.length - 1) ds)[i]? ≠ some (En.ow l) := fun i l h => by
    cases i with
    | zero => cases h
    | succ i => rcases frame_get h with ⟨d, _, e⟩ | ⟨_, e⟩ <;> cases e
  have zz : ∀ a, Zs Wd (bgB b c) (fun _ => 0) (En.bag :: frame (N.length - 1) ds) a → Wd a ∨ InB (bgB b c) a := by
    rintro a (z | ⟨i, l, g, _⟩ | z)
    · exact .inl z
    · exact absurd g (no i l)
    · exact .inr z
  have ln : (L2.start N (.ref b :: vs)).length = (En.bag :: frame (N.length - 1) ds).length := by
    rw [start_len, List.length_cons, List.length_cons, dpa_len hd, frame_len]
    omega
  refine ⟨ln, fun i e h => ?_, fun i j c c' g => absurd g (no i c), fun i c g => absurd g (no i c), fun a o h _ => h, hB, hW, fun p hp => nomatch hp⟩
  cases i with
  | zero =>
    cases h
    exact ⟨some (.ref b), rfl, b, c, rfl, rfl⟩
  | succ i =>
    rcases frame_get h with ⟨d, hi, rfl⟩ | ⟨hi, rfl⟩
    · obtain ⟨v, hv, dv⟩ := dpa_get hd hi
      exact ⟨some v, start_get (show (V.ref b :: vs)[i + 1]? = some v from hv), v, rfl, dp_mono (less_sub zz) dv⟩
    · have il : i + 1 < (L2.start N (.ref b :: vs)).length := by
        rw [ln]; exact (List.getElem?_eq_some_iff.mp h).1
      exact ⟨_, List.getElem?_eq_getElem il, trivial⟩
  ) only [↓qt_eq])
/-- a def that draws -/
theorem okWB {x qual : Str} {st : Stmt} {f : Addr} {fd : FuncData} {N ps : List Str} {k : Nat} {P : Pr} (cs : Cs) (F : Fun K x qual st f fd) (S : FnScope N ps (defScope st)) (hl : ∀ ds A, P ds A → ds.length + 1 = ps.length)
    (hb : ∀ ds A, P ds A → ∀ (cdv : Value) (Ar : Around) (outer : List Env) (sh : Shared) (H : Hp) (E : XK), Room k (Ar.deeper (envOfC qual (defScope st) sh.heap.objs.size f cdv)) →
      ∃ t, PSs (cxOf CX0 Pg w K mg base N qual (defScope st) f cdv Ar outer sh H E).nox (defBody st) t ∧ SW K cs W0 t (.bag :: frame (N.length - 1) ds) (rts0 A)) : FnOk Pg w K mg base CX0 (k + 1) f fd ps (spWB K P) := qt_of (by simp (disch := with_unfolding_all
  refine F.ok S (fun vs H Q E h => ?_) (fun cdv Ar outer sh H vs Q E hr h => ?_)
  · obtain ⟨Wd, b, c, us, ds, A, _, rfl, _, hd, hp, _⟩ := h
    rw [List.length_cons, dpa_len hd]
    exact hl ds A hp
  · obtain ⟨Wd, b, c, us, ds, A, hW, rfl, hB, hd, hp, q1, q2⟩ := h
    obtain ⟨t, ht, g⟩ := hb ds A hp cdv Ar outer sh H E hr
    refine ⟨t, ht, g Wd (bgB b c) (fun _ => 0) H H _ _ (staB hW hB hd) fun o p => ?_⟩
    cases o with
    | rt x => exact fun v H' e hb _ d => q1 x p v H' e hb d
    | rl l => exact fun a us H' e hb _ hn ho d => q2 l p a us H' e hb hn ho d
    | nx G => exact fun ad H' σ S _ => q1 _ p _ H' (fun a o h n => S.base a o h n) S.bag .non
    | bk G => exact p.elim
    | ct G => exact p.elim
    | ex e G => exact p.elim
  ) only [↓qt_eq])
theorem bag0_okN {ns : List Int} (h : ns.length ≤ 63) : (bag0 ns).ok := ⟨h, by show (0 : Int) ≤ 20011; decide, by show (20011 : Int) < 2147483647; decide⟩
/-- the law itself -/
theorem okLawW {x qual : Str} {st : Stmt} {f : Addr} {fd : FuncData} {N : List Str} {a : Str} {k j : Nat} (cs : Cs) (F : Fun K x qual st f fd) (S : FnScope N [a] (defScope st)) (hj : j = 1) (hN : 2 ≤ N.length)
    (hb : ∀ (ns : List Int), ns.length ≤ 63 → ∀ (cdv : Value) (A : Around) (outer : List Env) (sh : Shared) (H : Hp) (E : XK), Room k (A.deeper (envOfC qual (defScope st) sh.heap.objs.size f cdv)) →
      ∃ t, PSs (cxOf CX0 Pg w K mg base N qual (defScope st) f cdv A outer sh H E).nox (defBody st) (tSeq (tAsg (tCall (spBag K) [] E0 (tCons (tVar 0) tNil)) (gName j)) t) ∧ SW K cs W0 t (.d (.list (ns.map PyData.int)) :: .bag :: List.replicate (N.length - 2) .un) (fun o => o = .rt (.bool true))) : FnOk Pg w K mg base CX0 (k + 1) f fd [a] (spP K PLaw) := qt_of (by simp (disch := with_unfolding_all
  subst hj
  refine F.ok S (fun vs H Q E h => ?_) (fun cdv A outer sh H vs Q E hr h => ?_)
  · obtain ⟨W, ds, r, _, hd, ⟨ns, rfl, _⟩, _⟩ := h
    exact dpa_len hd
  · obtain ⟨W, ds, r, hW, hd, ⟨ns, rfl, hl, rfl⟩, q⟩ := h
    obtain ⟨t, ht, g⟩ := hb ns hl cdv A outer sh H E hr
    obtain ⟨v, rfl, dv⟩ := dp1 hd
    obtain ⟨N0, N1, N', rfl⟩ : ∃ a b r, N = a :: b :: r := by
      match N, hN with
      | a :: b :: r, _ => exact ⟨a, b, r, rfl⟩
    refine ⟨_, ht, ?_⟩
    refine ⟨v, rfl, W, ns, hW, hd, hl, fun b c H' e fb fc hB => ?_⟩
    have nb : ∀ a o, H a = some o → ¬ InB (bgB b c) a := by
      rintro a o h (⟨b', c', e, z⟩ | ⟨p, hp, _⟩)
      rotate_left
      · cases hp
      cases e
      rcases z with rfl | rfl
      · rw [fb] at h; cases h
      · rw [fc] at h; cases h
    have no : ∀ (i : Nat) (l : Own), (En.d (.list (ns.map PyData.int)) :: En.bag :: List.replicate N'.length En.un)[i]? ≠ some (En.ow l) := fun i l h => by
      match i, h with
      | 0, h => cases h
      | 1, h => cases h
      | i + 2, h => cases (List.mem_replicate.mp (List.mem_of_getElem? h)).2
    have hW' : ∀ a, W a → ∃ o, H' a = some o := fun a z => (hW a z).elim fun o q => ⟨o, e a o q⟩
    have S0 : Sta K W (bgB b c) (fun _ => 0) H H' ((L2.start (N0 :: N1 :: N') [v]).set 1 (some (.ref b))) (En.d (.list (ns.map PyData.int)) :: En.bag :: List.replicate N'.length En.un) := by
      refine ⟨?_, fun i en h => ?_, fun i j c c' g => absurd g (no i c), fun i c g => absurd g (no i c), fun a o h _ => e a o h, ⟨⟨_, bag0_okN hl, hB⟩, fun p hp => nomatch hp⟩, hW', fun p hp => nomatch hp⟩
      · rw [List.length_set, start_len]
        simp
        omega
      · match i, h with
        | 0, h =>
          cases h
          refine ⟨some v, rfl, v, rfl, dp_mono ?_ dv⟩
          intro a o q
          obtain ⟨q1, q2⟩ := less_some q
          refine less_of ?_ (e a o q2)
          rintro (z | ⟨i, l, g, _⟩ | z)
          · exact q1 z
          · exact no i l g
          · exact nb a o q2 z
        | 1, h =>
          cases h
          exact ⟨some (.ref b), rfl, b, c, rfl, rfl⟩
        | i + 2, h =>
          have en := (List.mem_replicate.mp (List.mem_of_getElem? h)).2
          subst en
          have il : i + 2 < ((L2.start (N0 :: N1 :: N') [v]).set 1 (some (.ref b))).length := by
            have := (List.getElem?_eq_some_iff.mp h).1
            rw [List.length_set, start_len]
            simp at this ⊢
            omega
          exact ⟨_, List.getElem?_eq_getElem il, trivial⟩
    refine g W (bgB b c) (fun _ => 0) H H' _ _ S0 fun o p => ?_
    subst p
    exact fun v' H2 e2 _ _ d => by
      cases d
      exact q _ H2 (fun a o h => e2 a o h (nb a o h)) (.bl true)
  ) only [↓qt_eq])
end
end U.N

end
section
namespace U.N
open PySem PyProof.Rows L2 Evl
section
variable {K : Fg} {cs : Cs} {W : WX} {G G' G1 G2 : Gam} {ta tb tc td te tf tg : TE} {φ : PyData → Prop} {ε : Xw → Prop} {ι : List PyData → Prop} {χ : Own → Prop} {γ : Gam → Prop} {Φ Ψ : Out → Prop}
variable {Wd : Addr → Prop} {B : Bt} {ad : Nat → Addr} {H0 H H1 H2 : Hp} {σ σ' : St}
/-! ### what a value is -/
section
variable {P : Int → Prop} {Pb : Bool → Prop} {Ps : Str → Prop} {Pl : List PyData → Prop} {i j : Int} {b : Bool} {x y z : PyData} {xs ys : List PyData}
theorem xi_int (p : P i) : ∃ j, PyData.int i = .int j ∧ P j := ⟨_, rfl, p⟩
theorem xi_bool (p : Pb b) : ∃ j, PyData.bool b = .bool j ∧ Pb j := ⟨_, rfl, p⟩
theorem xi_str {b : Str} (p : Ps b) : ∃ j, PyData.str b = .str j ∧ Ps j := ⟨_, rfl, p⟩
theorem xi_tup (p : Pl xs) : ∃ j, PyData.tuple xs = .tuple j ∧ Pl j := ⟨_, rfl, p⟩
theorem xi_list (p : Pl xs) : ∃ j, PyData.list xs = .list j ∧ Pl j := ⟨_, rfl, p⟩
theorem xi_it (h : itemsOf x = some xs) (p : Pl xs) : ∃ j, itemsOf x = some j ∧ Pl j := ⟨_, h, p⟩
theorem x1_it (h : itemsOf x = some xs) (p : Pl xs) : ∃ (y : PyData) (ys : List PyData), [x] = [y] ∧ itemsOf y = some ys ∧ Pl ys := ⟨_, _, rfl, h, p⟩
theorem x1_rng {P : Int → Prop} (hb : -1000000 ≤ i ∧ i ≤ 1000000) (p : P i) : ∃ n : Int, [PyData.int i] = [.int n] ∧ (-1000000 ≤ n ∧ n ≤ 1000000) ∧ P n := ⟨_, rfl, hb, p⟩
theorem sc_int (p : Pb (decide (i = j))) : ∃ b, scEq (.int i) (.int j) = some b ∧ Pb b := ⟨_, rfl, p⟩
theorem sc_str {i j : Str} (p : Pb (decide (i = j))) : ∃ b, scEq (.str i) (.str j) = some b ∧ Pb b := ⟨_, rfl, p⟩
theorem x_ol (p : Pl xs) : ∃ ys, ol xs = ol ys ∧ Pl ys := ⟨_, rfl, p⟩
theorem unk1 {G : Gam} {i : Nat} (h : G[i]? = some .un) : Unk [i] G := fun j e hj g => by
  rw [List.mem_singleton.mp hj, h] at g
  exact (Option.some.inj g).symm
theorem unk2 {G : Gam} {i j : Nat} (h : G[i]? = some .un) (h2 : G[j]? = some .un) : Unk [i, j] G := fun k e hk g => by
  rcases List.mem_cons.mp hk with rfl | hk
  · rw [h] at g; exact (Option.some.inj g).symm
  · rw [List.mem_singleton.mp hk, h2] at g; exact (Option.some.inj g).symm
end
/-! ### displays of a known length -/
theorem ew_tup2 (h : EW K cs W ta G (fun a => EW K cs W tb G (fun b => φ (.tuple [a, b])) ε) ε) : EW K cs W (tTup (tCons ta (tCons tb tNil))) G φ ε := ew_tup (aw_cons (ew_mono h fun a h => aw_cons (ew_mono h fun b p => aw_nil ⟨by show 2 ≤ 16000000; decide, p⟩)))
theorem ew_tup3 (h : EW K cs W ta G (fun a => EW K cs W tb G (fun b => EW K cs W tc G (fun c => φ (.tuple [a, b, c])) ε) ε) ε) : EW K cs W (tTup (tCons ta (tCons tb (tCons tc tNil)))) G φ ε := ew_tup (aw_cons (ew_mono h fun a h => aw_cons (ew_mono h fun b h => aw_cons (ew_mono h fun c p => aw_nil ⟨by show 3 ≤ 16000000; decide, p⟩))))
theorem ef_lst0 (p : χ (ol [])) : EF K cs W (tLst tNil) G χ ε := ef_lst (aw_nil ⟨by show 0 ≤ 16000000; decide, p⟩)
theorem ef_lst1 (h : EW K cs W ta G (fun a => χ (ol [a])) ε) : EF K cs W (tLst (tCons ta tNil)) G χ ε := ef_lst (aw_cons (ew_mono h fun a p => aw_nil ⟨by show 1 ≤ 16000000; decide, p⟩))
theorem ef_lst2 (h : EW K cs W ta G (fun a => EW K cs W tb G (fun b => χ (ol [a, b])) ε) ε) : EF K cs W (tLst (tCons ta (tCons tb tNil))) G χ ε := ef_lst (aw_cons (ew_mono h fun a h => aw_cons (ew_mono h fun b p => aw_nil ⟨by show 2 ≤ 16000000; decide, p⟩)))
theorem ef_lst3 (h : EW K cs W ta G (fun a => EW K cs W tb G (fun b => EW K cs W tc G (fun c => χ (ol [a, b, c])) ε) ε) ε) : EF K cs W (tLst (tCons ta (tCons tb (tCons tc tNil)))) G χ ε := ef_lst (aw_cons (ew_mono h fun a h => aw_cons (ew_mono h fun b h => aw_cons (ew_mono h fun c p => aw_nil ⟨by show 3 ≤ 16000000; decide, p⟩))))
theorem ew_lst0 (p : φ (.list [])) : EW K cs W (tLst tNil) G φ ε := ew_ef (ef_lst0 ⟨_, rfl, p⟩)
theorem ew_lst1 (h : EW K cs W ta G (fun a => φ (.list [a])) ε) : EW K cs W (tLst (tCons ta tNil)) G φ ε := ew_ef (ef_lst1 (ew_mono h fun a p => ⟨_, rfl, p⟩))
theorem ew_lst2 (h : EW K cs W ta G (fun a => EW K cs W tb G (fun b => φ (.list [a, b])) ε) ε) : EW K cs W (tLst (tCons ta (tCons tb tNil))) G φ ε := ew_ef (ef_lst2 (ew_mono h fun a h => ew_mono h fun b p => ⟨_, rfl, p⟩))
theorem ew_lst3 (h : EW K cs W ta G (fun a => EW K cs W tb G (fun b => EW K cs W tc G (fun c => φ (.list [a, b, c])) ε) ε) ε) : EW K cs W (tLst (tCons ta (tCons tb (tCons tc tNil)))) G φ ε := ew_ef (ef_lst3 (ew_mono h fun a h => ew_mono h fun b h => ew_mono h fun c p => ⟨_, rfl, p⟩))
/-! ### calls without defaults -/
section
variable {ta : TA} {P : Pr} {E : XK}
theorem ew_cP {P : List PyData → PyData → Prop} (h : AW K cs W ta G (fun ds => ∃ r, P ds r ∧ φ r) ε) : EW K cs W (tCall (spP K P) [] E ta) G φ ε := ew_callP (des := []) (fun _ => .nil) (aw_mono h fun ds p => by rw [List.append_nil]; exact p)
theorem ew_c0 (h : AW K cs W ta G (fun ds => P ds (rE φ noX)) ε) : EW K cs W (tCall (spW0 K P) [] E ta) G φ ε := ew_call0 (des := []) (fun _ => .nil) (aw_mono h fun ds p => by rw [List.append_nil]; exact p)
end
/-! ### zip -/
theorem dp_sqv {M : Hp} {v : V} {x : PyData} {xs : List PyData} (hx : itemsOf x = some xs) (d : Dp K M v x) : ∃ k a vs, v = .ref a ∧ SqV K k M a vs ∧ DpAll K M vs xs := by
  rcases items_cases hx with rfl | rfl
  · cases d with
    | lst g t => exact ⟨.L, _, _, rfl, g, t⟩
  · cases d with
    | tup g t => exact ⟨.T, _, _, rfl, g, t⟩
theorem ex_v {M M' : Hp} {k : Kd} {a : Addr} {vs : List V} (e : Ex M M') (h : SqV K k M a vs) : SqV K k M' a vs := by
  cases k with
  | L => exact ex_l e h
  | T => exact ex_t e h
/-! ### stars -/
/-- for i in range(n) -/
theorem forN {g : TG} {tb : TS} {k : Nat} (I : Nat → Gam → Prop) (h0 : I 0 G) (hs : ∀ i G1, i < k → I i G1 → GW K g G1 (.int i) (fun Gt => SW K cs W tb Gt (lp (I (i + 1)) Φ))) (he : ∀ G1, I k G1 → Φ (.nx G1)) : ForI K cs W g tb G Φ (rngD 0 k) := by
  refine ⟨I, h0, fun i x G1 hx hI => ?_, fun G1 hI => he G1 (by rw [rngD_len] at hI; exact hI)⟩
  have hl := (List.getElem?_eq_some_iff.mp hx).1
  rw [rngD_len] at hl
  rw [rngD_get hl] at hx
  cases hx
  rw [Int.zero_add]
  exact hs i G1 hl hI
section
variable {tz tu tw : TS} {g : TG} {wi : TI} {t : TT} {ti : TIp} {i j : Nat} {ta : TA}
theorem sw_seqA (h : SW K cs W (tAsg te g) G (sq K cs W tz Φ)) : SW K cs W (tSeq (tAsg te g) tz) G Φ := sw_seq h
theorem sw_seqF (h : SW K cs W (tFor wi g tu) G (sq K cs W tz Φ)) : SW K cs W (tSeq (tFor wi g tu) tz) G Φ := sw_seq h
end
theorem sw_cut {tu tz : TS} (J : Gam → Prop) (h : SW K cs W tu G (fun o => ∃ G1, o = .nx G1 ∧ J G1)) (k : ∀ G1, J G1 → SW K cs W tz G1 Φ) : SW K cs W (tSeq tu tz) G Φ := sw_seq (sw_mono h fun o ⟨G1, e, j⟩ => by rw [e]; exact k G1 j)
theorem x_nx {J : Gam → Prop} (h : J G) : ∃ G1, Out.nx G = .nx G1 ∧ J G1 := ⟨G, rfl, h⟩
/-! ### more of lists of one's own -/
theorem sw_setI {i : Nat} {xs : List PyData} (hi : G[i]? = some (.ow (ol xs))) (h : EW K cs W te G (fun x => EW K cs W tb G (fun y => ∃ j k, y = .int j ∧ ixN xs.length j = some k ∧ Φ (.nx (G.set i (.ow (ol (xs.set k x)))))) (fun e => Φ (.ex e G))) (fun e => Φ (.ex e G))) : SW K cs W (tAsg te (gSub (tVar i) tb rSetL)) G Φ := fun Wd B ad H0 H σ D S q =>
  h Wd B ad H0 H σ S _ (fun x p v H1 S1 e1 d1 => by
    obtain ⟨o, g1, rfl, _⟩ := S1.at_ i _ hi
    refine ⟨_, g1, p Wd B ad H0 H1 σ S1 _ (fun y ⟨j, k, ej, hk, p⟩ w H2 S2 e2 d2 => ?_) ((post_xp q).go e1)⟩
    subst ej
    cases d2
    obtain ⟨_, _, _, us, g5, g6⟩ := S2.at_ i _ hi
    have g5 : H2 (ad i) = some (.lst us) := g5
    have g6 : DpAll K _ us xs := g6
    refine ⟨_, us, j, k, rfl, rfl, g5, by rw [dpa_len g6]; exact hk, ?_⟩
    have ds : DpAll K (less H2 (Zs Wd B ad G)) (us.set k v) (xs.set k x) := by
      have key : ∀ (us : List V) (xs : List PyData) (k : Nat), DpAll K (less H2 (Zs Wd B ad G)) us xs → DpAll K (less H2 (Zs Wd B ad G)) (us.set k v) (xs.set k x) := fun us => by
        induction us with
        | nil => intro xs k h; cases h; exact .nil
        | cons u us ih =>
          intro xs k h
          cases h with
          | cons a b =>
            cases k with
            | zero => exact .cons (dp_mono (Xb.lz e2) d1) b
            | succ k => exact .cons a (ih _ k b)
      exact key us xs k g6
    exact q _ p ad _ σ (S2.chg (c' := ol (xs.set k x)) hi ds) ((Xb.lz (e1.trans e2)).trans (chg_ex hi))) (post_xp q)
end
end U.N

end
section
namespace U.N
open PySem PyProof.Rows L2 Evl
section
variable {φ : PyData → Prop} {n m : Nat} {p q : Fr}
/-! ### items by literal places -/
section
variable {α : Type} {ψ : α → Prop} {xs : List α} {z : α}
theorem at_nat {i : Nat} (h : xs[i]? = some z) (p : ψ z) : ∃ z, atI xs (i : Int) = some z ∧ ψ z := ⟨z, atI_nat h, p⟩
theorem at0 (h : xs[0]? = some z) (p : ψ z) : ∃ z, atI xs 0 = some z ∧ ψ z := at_nat (i := 0) h p
theorem at1 (h : xs[1]? = some z) (p : ψ z) : ∃ z, atI xs 1 = some z ∧ ψ z := at_nat (i := 1) h p
end
/-! ### what calls of the first layer's defs give -/
theorem c_pull {k : Int} (h0 : 0 < k) (h1 : k < 1000000000000) (h : ∀ v : Int, 0 ≤ v → v < k → φ (.int v)) (s : Bag) (ok : s.ok) : ∃ r s', P_pull s [.int k] r s' ∧ s'.ok ∧ φ r :=
  ⟨_, _, ⟨k, rfl, h0, h1, rfl, rfl⟩, pullS_ok _ ok, h _ (pullV_range s h0).1 (pullV_range s h0).2⟩
theorem c_map {st gl : Int} (h1 : 0 ≤ st) (h2 : 0 ≤ gl) (l1 : st ≤ 1000) (l2 : gl ≤ 1000) (h : ∀ m, Mp 10 gl.toNat st.toNat m → φ (mp m)) (s : Bag) (ok : s.ok) : ∃ r s', P_map s [.int st, .int gl] r s' ∧ s'.ok ∧ φ r :=
  ⟨_, _, ⟨st.toNat, gl.toNat, by rw [Int.toNat_of_nonneg h1, Int.toNat_of_nonneg h2], by omega, by omega, rfl, rfl⟩, mapS_ok ok _ _, h _ (mapOf_mp _ _ _)⟩
theorem gd_none : Gd 1 (0, 1) := ⟨⟨by unfold Bd; decide, by unfold Bd; decide⟩, by decide, by decide⟩
end
end U.N


end
section
/-! Spots in order: the common number below, the keys, the order by worth. -/
namespace U
open PySem PyProof.Rows L2 Evl
/-! ### the common number -/
/-! ### the keys -/
end U

end
section
/-! Dicts of one's own, keys tuples; sorted. -/
namespace U.N
open PySem L2 Evl
noncomputable abbrev Kvs := List (List PyData × PyData)
section
variable {K : Fg} {M : Hp}
end
section
variable {K : Fg} {cs : Cs} {W : WX} {G G' G1 G2 : Gam} {ta tb tc te : TE} {t u : TT} {φ : PyData → Prop} {ε : Xw → Prop} {ψ : Bool → Prop} {α : List PyData → Prop} {ι : List PyData → Prop} {χ : Own → Prop} {Φ : Out → Prop} {tu : TS}
variable {Wd : Addr → Prop} {B : Bt} {ad : Nat → Addr} {H0 H H1 H2 : Hp} {σ : L2.St} {w : World} {ep : Nat} {kvs : Kvs} {i : Nat}
/-! ### sorted -/
end
/-! ### a dict by a comprehension -/
section
variable {K : Fg} {cs : Cs} {W : WX} {G : Gam} {tk tv : TE} {ε : Xw → Prop} {χ : Own → Prop} {wi : TI} {g : TG} {tt : TT} {vs : List Nat} {w : World}
end
end U.N

end
section
/-! The order of spots; dicts by keys of a type. -/
namespace U
open PySem PyProof.Rows L2 Evl
/-! ### dicts by typed keys -/
namespace N
section
variable {κ β : Type} [DecidableEq κ] {ek : κ → List PyData} {ev : β → PyData}
end
end N
end U

end
section
/-! Keys that are whole numbers; sorted rows of whole numbers; forms for the walking tactic. -/
namespace U.N
open PySem L2 Evl
/-! ### rows of whole numbers, sorted -/
/-! ### forms for the tactic -/
section
variable {K : Fg} {cs : Cs} {W : WX} {G : Gam} {ta tb : TE} {φ : PyData → Prop} {ε : Xw → Prop} {w : World} {ep : Nat} {kvs : Kvs} {i : Nat}
theorem ew_inS {neg : Bool} (h : EW K cs W ta G (fun x => EW K cs W tb G (fun y => ∃ ds, itemsOf y = some ds ∧ SeqAt.shaped x = true ∧ SeqAt.shaped (.list ds) = true ∧ φ (.bool (if neg then !ds.any (fun z => PyData.eqv z x) else ds.any fun z => PyData.eqv z x))) ε) ε) : EW K cs W (tOp (rInS K neg) ta tb) G φ ε :=
  ew_op (ew_mono h fun x h => ew_mono h fun y ⟨ds, e, h1, h2, p⟩ => fun Wd B ad H0 H σ v w S d1 d2 Q q => ⟨x, y, ds, dp_mono less_ex d1, dp_mono less_ex d2, items_cases e, h1, h2, q _ p _ H S Xb.refl (.bl _)⟩)
theorem ew_inSO {neg : Bool} {xs : List PyData} (hi : G[i]? = some (.ow (ol xs))) (h : EW K cs W ta G (fun x => SeqAt.shaped x = true ∧ SeqAt.shaped (.list xs) = true ∧ φ (.bool (if neg then !xs.any (fun z => PyData.eqv z x) else xs.any fun z => PyData.eqv z x))) ε) : EW K cs W (tOp (rInS K neg) ta (tVar i)) G φ ε := fun Wd B ad H0 H σ S Q q x =>
  h Wd B ad H0 H σ S _ (fun y ⟨h1, h2, p⟩ v H2 S2 e2 d2 => by
    obtain ⟨o, g1, rfl, vs, g3, g4⟩ := S2.at_ i _ hi
    have g3 : H2 (ad i) = some (.lst vs) := g3
    have g4 : DpAll K _ vs xs := g4
    exact ⟨_, g1, y, .list xs, xs, dp_mono less_ex d2, .lst (sq_of g3) (dpa_mono less_ex g4), .inl rfl, h1, h2, q _ p _ H2 S2 e2 (.bl _)⟩) x
end
end U.N

end
section
/-! The common number divides every common multiple. -/
namespace U
open PySem PyProof.Rows L2 Evl
end U

end
section
/-! Corners round: plain geometry over the rationals. -/
namespace U.Hull
structure Pt where
  x : Rat
  y : Rat
deriving DecidableEq
noncomputable def sub (a b : Pt) : Pt := ⟨a.x - b.x, a.y - b.y⟩
/-- the area by which two steps span -/
noncomputable def cr (u v : Pt) : Rat := u.x * v.y - u.y * v.x
/-- > 0: c lies to the left of a → b -/
noncomputable def tn (a b c : Pt) : Rat := cr (sub b a) (sub c a)
/-! ### one side -/
/-! ### edges -/
end U.Hull

end
section
namespace U.Hull
/-- q lies between h and r -/
noncomputable def Btw (h r q : Pt) : Prop := (q.x - h.x) * (q.x - r.x) ≤ 0 ∧ (q.y - h.y) * (q.y - r.y) ≤ 0 ∧ tn h r q = 0
/-- q follows h round the spots P -/
noncomputable def Nx (P : List Pt) (h q : Pt) : Prop := q ∈ P ∧ q ≠ h ∧ (∀ r ∈ P, 0 ≤ tn h q r) ∧ ∀ r ∈ P, r ≠ q → ¬ Btw h r q
end U.Hull

end
section
namespace U.Hull
end U.Hull

end
section
/-! Corners round, of spots. -/
namespace U.Hull
open U
end U.Hull

end
section
/-! The body of spots in order. -/
namespace U.Hull
open U
/-! ### on a line -/
end U.Hull

end
section
namespace U.N
open PySem PyProof.Rows L2 Evl
section
variable {K : Fg} {cs : Cs} {W : WX} {G G' : Gam} {ta te : TE} {φ : PyData → Prop} {ε : Xw → Prop} {ι : List PyData → Prop} {χ : Own → Prop} {Φ : Out → Prop}
variable {Wd : Addr → Prop} {B : Bt} {ad : Nat → Addr} {H0 H H1 H2 : Hp} {σ : L2.St}
/-! ### enumerate -/
/-! ### many clauses -/
/-! the turns' items by a map -/
section
variable {β : Type} {xs : List β} {f : β → PyData} {g : TG} {tt : TT} {tc : TCl} {vs : List Nat} {m : Nat} {ρ : List PyData → Prop}
end
end
end U.N

end
section
/-! A list of one's own is lent to a test or a call that only reads it. -/
namespace U.N
open PySem PyProof.Rows L2 Evl
section
variable {K : Fg} {cs : Cs} {W : WX} {G : Gam} {te : TE} {t : TT} {φ : PyData → Prop} {ψ : Bool → Prop} {ε : Xw → Prop} {i : Nat} {xs : List PyData}
variable {Wd : Addr → Prop} {B : Bt} {ad : Nat → Addr} {H0 H H2 : Hp} {σ : L2.St}
end
end U.N

end
section
namespace U.N
open PySem PyProof.Rows L2 Evl
section
variable {K : Fg} {cs : Cs} {W : WX} {G G' : Gam} {ta tb te : TE} {φ : PyData → Prop} {ε : Xw → Prop} {χ : Own → Prop} {Φ : Out → Prop} {γ : Gam → Prop} {P : Pr}
variable {Wd : Addr → Prop} {B : Bt} {ad : Nat → Addr} {H0 H H1 H2 : Hp} {σ : L2.St}
/-! ### first, *rest = xs -/
theorem gw_starE {i j : Nat} {x : PyData} {y : PyData} {ys : List PyData} (hx : itemsOf x = some (y :: ys)) (hl : ys.length ≤ 10000) (h : γ ((G.set i (.d y)).set j (.d (.list ys)))) : GW K (gStarE K (gCons (gName i) (gCons (gName j) gNil))) G x γ := fun Wd B ad H0 H σ v S d Q q => by
  obtain ⟨k, a, us, rfl, g, t⟩ := dp_sqv hx d
  cases t with
  | cons d1 d2 =>
    rename_i w ws
    refine ⟨k, a, w, ws, rfl, ex_v less_ex g, by rw [dpa_len d2]; exact hl, fun l hn => ?_⟩
    obtain ⟨S1, e1, g1⟩ := new_ex (o := .lst ws) S hn
    have ex := Xb.lz (W := Wd) (ad := ad) (G := G) e1
    have S2 := S1.setD (i := i) (dp_mono ex d1)
    have e2 : Ex (less (upd H l (.lst ws)) (Zs Wd B ad G)) (less (upd H l (.lst ws)) (Zs Wd B ad (G.set i (.d y)))) := less_sub fun a z => Zs.set_of (fun _ z => by cases z) z
    have dl : Dp K (less (upd H l (.lst ws)) (Zs Wd B ad G)) (.ref l) (.list ys) := .lst (sq_of g1) (dpa_mono ex d2)
    have S3 := S2.setD (i := j) (dp_mono e2 dl)
    refine ⟨_, _, rfl, _, _, rfl, rfl, ?_⟩
    exact q _ _ _ _ h S3 (ex.trans (e2.trans (less_sub fun a z => Zs.set_of (fun _ z => by cases z) z)))
/-! ### calls with keywords that may raise -/
/-! ### xs.index(y) -/
end
/-! ### keys that are bodies -/
end U.N

end
section
namespace U.N
open PySem PyProof.Rows L2 Evl
section
variable {K : Fg} {cs : Cs} {W : WX} {G : Gam} {φ : PyData → Prop} {ε : Xw → Prop}
/-! ### max and min of a list of whole numbers -/
theorem sw_extA {Φ : Out → Prop} {te : TE} {i : Nat} {xs : List PyData} (hi : G[i]? = some (.ow (ol xs))) (h : EW K cs W te G (fun y => ∃ ys, itemsOf y = some ys ∧ xs.length + ys.length ≤ 16000000 ∧ Φ (.nx (G.set i (.ow (ol (xs ++ ys)))))) (fun e => Φ (.ex e G))) : SW K cs W (tDrop (tBM K "list" (rExtQ K) (tVar i) (tCons te tNil))) G Φ := fun Wd B ad H0 H σ D S q => by
  obtain ⟨o, g1, rfl, vs, g3, g4⟩ := S.at_ i _ hi
  have g3 : H (ad i) = some (.lst vs) := g3
  refine ⟨_, g1, Or.inl ⟨rfl, vs, sq_of g3⟩, h Wd B ad H0 H σ S _ (fun y ⟨ys, ey, hl, p⟩ v H1 S1 e1 d1 => ?_) (post_xp q)⟩
  obtain ⟨_, _, _, ws, g5, g6⟩ := S1.at_ i _ hi
  have g5 : H1 (ad i) = some (.lst ws) := g5
  have g6 : DpAll K _ ws xs := g6
  cases d1 with
  | lst g t =>
    obtain rfl := Option.some.inj ey
    refine ⟨_, _, ws, _, rfl, rfl, g5, .inl (ex_l less_ex g), by rw [dpa_len g6, dpa_len t]; exact sz_line hl, ?_⟩
    exact q _ p ad _ σ (S1.chg (c' := ol (xs ++ _)) hi (dpa_app g6 t)) ((Xb.lz e1).trans (chg_ex hi))
  | tup g t =>
    obtain rfl := Option.some.inj ey
    refine ⟨_, _, ws, _, rfl, rfl, g5, .inr (ex_t less_ex g), by rw [dpa_len g6, dpa_len t]; exact sz_line hl, ?_⟩
    exact q _ p ad _ σ (S1.chg (c' := ol (xs ++ _)) hi (dpa_app g6 t)) ((Xb.lz e1).trans (chg_ex hi))
  | _ => cases ey
theorem sw_extQ {Φ : Out → Prop} {te : TE} {i : Nat} {xs : List PyData} (hi : G[i]? = some (.ow (ol xs))) (h : EW K cs W te G (fun y => ∃ ys, y = .list ys ∧ xs.length + ys.length ≤ 16000000 ∧ Φ (.nx (G.set i (.ow (ol (xs ++ ys)))))) (fun e => Φ (.ex e G))) : SW K cs W (tDrop (tBM K "list" (rExtQ K) (tVar i) (tCons te tNil))) G Φ := sw_extA hi (ew_mono h fun y ⟨ys, e, p⟩ => ⟨ys, by rw [e]; rfl, p⟩)
end
end U.N

end
section
namespace U.N
open PySem PyProof.Rows L2 Evl
section
variable {K : Fg} {cs : Cs} {W : WX} {G : Gam} {φ : PyData → Prop} {ε : Xw → Prop}
end
end U.N

end
section
namespace U.N
open PySem PyProof.Rows L2 Evl
section
variable {K : Fg} {cs : Cs} {W : WX} {G : Gam} {Φ : Out → Prop}
/-- xs += ys, xs a list of one's own -/
theorem sw_augL {te : TE} {i : Nat} {xs : List PyData} (hi : G[i]? = some (.ow (ol xs))) (h : EW K cs W te G (fun y => ∃ ys, y = .list ys ∧ xs.length + ys.length ≤ 16000000 ∧ Φ (.nx (G.set i (.ow (ol (xs ++ ys)))))) (fun e => Φ (.ex e G))) : SW K cs W (tAug i te (rIcat K)) G Φ := fun Wd B ad H0 H σ D S q => by
  obtain ⟨o, g1, rfl, vs, g3, g4⟩ := S.at_ i _ hi
  refine ⟨_, g1, h Wd B ad H0 H σ S _ (fun y ⟨ys, ey, hl, p⟩ v H1 S1 e1 d1 => ?_) (post_xp q)⟩
  subst ey
  obtain ⟨o1, g7, rfl, ws, g5, g6⟩ := S1.at_ i _ hi
  have g5 : H1 (ad i) = some (.lst ws) := g5
  have g6 : DpAll K _ ws xs := g6
  have il := (List.getElem?_eq_some_iff.mp g7).1
  have es : σ.set i (some (V.ref (ad i))) = σ := by
    have e := (List.getElem?_eq_some_iff.mp g7).2
    rw [← e]
    exact List.set_getElem_self il
  cases d1 with
  | lst g t =>
    refine ⟨_, _, ws, _, rfl, rfl, g5, ex_l less_ex g, by rw [dpa_len g6, dpa_len t]; exact sz_line hl, ?_⟩
    show D.nx (σ.set i (some (V.ref (ad i)))) _
    rw [es]
    exact q _ p ad _ σ (S1.chg (c' := ol (xs ++ ys)) hi (dpa_app g6 t)) ((Xb.lz e1).trans (chg_ex hi))
end
end U.N

end
section
namespace U.N
open PySem PyProof.Rows L2 Evl
section
variable {K : Fg} {cs : Cs} {W : WX} {G : Gam} {γ : Gam → Prop}
end
end U.N

end
section
/-! Defs as values: a def that tells a def by a text, and calls by a name that holds one. -/
namespace U.N
open PySem PyProof.Rows L2 Evl
noncomputable abbrev FTab := List (Str × Addr)
section
variable {K : Fg} {cs : Cs} {W : WX} {G : Gam} {φ : PyData → Prop} {ε : Xw → Prop} {Φ : Out → Prop} {t u : TE} {ta : TA} {i : Nat} {f : Addr} {P : Pr} {tab : FTab} {e : Xw}
end
/-! ### the body of such a def -/
section
variable (K : Fg) (cs : Cs) (W : WX)
end
section
variable {K : Fg} {cs : Cs} {W : WX} {G : Gam} {A : Addr → Prop} {ε : Xw → Prop} {t1 t2 : TS} {w : World} {f md : Addr} {i : Nat} {z : Str}
end
section
variable {Pg : Program} {w : World} {K : Fg} {mg : Str → Option Value} {base : Heap} {cs : Cs}
end
end U.N

end
section
/-! list(d), d a dict of one's own: its keys, in the order in which they came. -/
namespace U
open PySem PySem.W PyProof.Rows L2 Evl
end U
namespace U.N
open PySem PyProof.Rows L2 Evl
section
variable {K : Fg} {cs : Cs} {W : WX} {G : Gam} {φ : PyData → Prop} {χ : Own → Prop} {ε : Xw → Prop} {w : World} {i ep : Nat} {kvs : Kvs}
end
end U.N

end
section
/-! sorted(set(xs)), xs a list of tuples of whole numbers. -/
namespace U
open PySem PySem.W PyProof.Rows L2 Evl
end U

end
section
/-! sorted(set(xs)), told to the readings. -/
namespace U.N
open PySem PyProof.Rows L2 Evl
section
variable {K : Fg} {cs : Cs} {W : WX} {G : Gam} {φ : PyData → Prop} {χ : Own → Prop} {ε : Xw → Prop} {te : TE} {P : Program} {w : World}
end
end U.N

end
section
/-! sorted(set(xs)) as a term; xs.insert(0, y). -/
namespace U.N
open PySem PyProof.Rows L2 Evl
section
variable {K : Fg} {cs : Cs} {W : WX} {G : Gam} {φ : PyData → Prop} {ε : Xw → Prop} {Φ : Out → Prop} {te : TE}
end
end U.N

end
section
/-! Texts: len, signs, slices, in, int(text), str(number), +, *, f-strings, partition, find, count, join. -/
namespace U.N
open PySem PyProof.Rows L2 Evl
/-! ### relations by name -/
section
variable {X : Cx} {o e : Expr} {to te : TE}
end
/-! ### isinstance(why, a built-in class) -/
end U.N
namespace U
open PySem PyProof.Rows L2 Evl
end U
namespace U.N
open PySem PyProof.Rows L2 Evl
/-! ### what suffices -/
section
variable {K : Fg} {cs : Cs} {W : WX} {G : Gam} {φ : PyData → Prop} {ε : Xw → Prop} {ι : List PyData → Prop} {te ta tb : TE}
end
end U.N

end
section
/-! An empty dict among data: displays that hold one, names and arguments that are one. -/
namespace U.N
open PySem PyProof.Rows L2 Evl
section
variable (K : Fg) (cs : Cs) (W : WX)
end
section
variable {K : Fg} {cs : Cs} {W : WX} {G : Gam} {ta tb te : TE} {tr tk : TA} {φ : PyData → Prop} {χ : Option PyData → Prop} {α : List (Option PyData) → Prop} {ε : Xw → Prop} {Φ : Out → Prop} {P P1 : Pr} {dvs : List V} {des : List PyData} {E : XK}
end
/-! ### the bodies of such defs -/
section
variable {Pg : Program} {w : World} {K : Fg} {mg : Str → Option Value} {base : Heap} {cs : Cs}
end
end U.N

end
section
/-! Values that are no data, known by what stays true of them. -/
namespace U.N
open PySem PyProof.Rows L2 Evl
noncomputable abbrev Rho := V → Hp → Prop
/-- it holds, and will -/
noncomputable def Stay (M : Hp) (ρ : Rho) (v : V) : Prop := ∀ M', Ex M M' → ρ v M'
theorem Stay.mono {M M2 : Hp} {ρ : Rho} {v : V} (h : Stay M ρ v) (e : Ex M M2) : Stay M2 ρ v := fun M' m => h M' fun a o q => m a o (e a o q)
section
variable {K : Fg} {cs : Cs} {W : WX}
noncomputable def RW (K : Fg) (cs : Cs) (W : WX) (te : TE) (G : Gam) (φ : Rho → Prop) (ε : Xw → Prop) : Prop :=
  ∀ Wd B ad H0 H σ, Sta K Wd B ad H0 H σ G → ∀ Q : VK, (∀ ρ, φ ρ → ∀ v H2, Sta K Wd B ad H0 H2 σ G → Xb B H H2 → Stay (less H2 (Zs Wd B ad G)) ρ v → Q v H2) → XP K cs W Wd B ad H0 H σ G ε → te σ H Q
variable {G : Gam} {φ : Rho → Prop} {ψ : PyData → Prop} {α : List Rho → Prop} {Φ : Out → Prop} {ε : Xw → Prop} {ta tr : TA} {te tf : TE}
theorem rw_var {i : Nat} {ρ : Rho} (h : G[i]? = some (.rv ρ)) (p : φ ρ) : RW K cs W (tVar i) G φ ε := fun Wd B ad H0 H σ S Q q _ => by
  obtain ⟨o, h1, v, rfl, h2⟩ := S.at_ i _ h
  exact ⟨v, h1, q ρ p v H S Xb.refl h2⟩
end
end U.N

end
section
/-! Loops and comprehensions over values that are no data. -/
namespace U.N
open PySem PyProof.Rows L2 Evl
section
variable {K : Fg} {cs : Cs} {W : WX} {G : Gam} {φ : Rho → Prop} {ψ : PyData → Prop} {χ : Own → Prop} {Φ : Out → Prop} {ε : Xw → Prop} {ι : List Rho → Prop} {γ : Gam → Prop} {te : TE} {tt : TT} {wi : TI} {g : TG} {vs : List Nat}
end
end U.N

end
section
/-! Defs that take values which are no data. -/
namespace U.N
open PySem PySem.W PyProof.Rows L2 Evl
noncomputable def ArgOk (K : Fg) (M : Hp) (v : V) : En → Prop
  | .d x => Dp K M v x
  | .rv ρ => Stay M ρ v
  | _ => False
inductive ArgAll (K : Fg) (M : Hp) : List V → List En → Prop
  | nil : ArgAll K M [] []
  | cons {v : V} {e : En} {vs : List V} {es : List En} : ArgOk K M v e → ArgAll K M vs es → ArgAll K M (v :: vs) (e :: es)
theorem ArgAll.len {K : Fg} {M : Hp} : ∀ {vs : List V} {es : List En}, ArgAll K M vs es → vs.length = es.length
  | _, _, .nil => rfl
  | _, _, .cons _ b => congrArg (· + 1) b.len
theorem ArgAll.at_ {K : Fg} {M : Hp} : ∀ {vs : List V} {es : List En} {j : Nat} {e : En}, ArgAll K M vs es → es[j]? = some e → ∃ v, vs[j]? = some v ∧ ArgOk K M v e
  | _, _, 0, _, .cons a b, h => by cases h; exact ⟨_, rfl, a⟩
  | _, _, j + 1, _, .cons a b, h => b.at_ (j := j) h
noncomputable abbrev PrE := List En → (Rs → Prop) → Prop
/-- a def that takes what is no data, and never raises -/
noncomputable def spE (K : Fg) (P : PrE) : Sp := fun vs H Q _ => ∃ (Wd : Addr → Prop) (es : List En) (A : Rs → Prop), (∀ a, Wd a → ∃ o, H a = some o) ∧ ArgAll K (less H Wd) vs es ∧ P es A ∧ okRs H K Wd Q A
/-- .. that may raise -/
noncomputable def spEX (K : Fg) (cs : Cs) (P : PrE) : Sp := fun vs H Q E => ∃ (Wd : Addr → Prop) (es : List En) (A : Rs → Prop), (∀ a, Wd a → ∃ o, H a = some o) ∧ ArgAll K (less H Wd) vs es ∧ P es A ∧ okRs H K Wd Q A ∧
  ∀ e, A (.er e) → ∀ d H', Ex H H' → H d = none → H' d = some (.xd e.fs) → E (.ref (cs e.cls)) (some d) H'
noncomputable def frameE (n : Nat) (es : List En) : Gam := es ++ List.replicate (n - es.length) .un
section
variable {Pg : Program} {w : World} {K : Fg} {mg : Str → Option Value} {base : Heap} {cs : Cs}
theorem frameE_get {n i : Nat} {es : List En} {e : En} (h : (frameE n es)[i]? = some e) : es[i]? = some e ∨ (es.length ≤ i ∧ e = .un) := qt_of (by simp (disch := with_unfolding_all
  unfold frameE at h
  by_cases hi : i < es.length
  · rw [List.getElem?_append_left hi] at h
    exact .inl h
  · rw [List.getElem?_append_right (by omega)] at h
    exact .inr ⟨by omega, (List.mem_replicate.mp (List.mem_of_getElem? h)).2⟩
  ) only [↓qt_eq])
theorem frameE_len {n : Nat} {es : List En} : (frameE n es).length = es.length + (n - es.length) := by
  unfold frameE
  rw [List.length_append, List.length_replicate]
theorem sta0E {N : List Str} {Wd : Addr → Prop} {H : Hp} {vs : List V} {es : List En} (hW : ∀ a, Wd a → ∃ o, H a = some o) (hd : ArgAll K (less H Wd) vs es) : Sta K Wd noB (fun _ => 0) H H (L2.start N vs) (frameE N.length es) := qt_of (by simp (disch := with_unfolding_all
  have no : ∀ (i : Nat) (c : Own), (frameE N.length es)[i]? ≠ some (En.ow c) := fun i c h => by
    rcases frameE_get h with g | ⟨_, e⟩
    · obtain ⟨v, _, a⟩ := hd.at_ g
      exact a
    · cases e
  have zz : ∀ a, Zs Wd noB (fun _ => 0) (frameE N.length es) a → Wd a := by
    rintro a (z | ⟨i, c, g, _⟩ | ⟨b, c, z, _⟩ | ⟨p, hp, _⟩)
    · exact z
    · exact absurd g (no i c)
    · cases z
    · cases hp
  refine ⟨?_, fun i e h => ?_, fun i j c c' g => absurd g (no i c), fun i c g => absurd g (no i c), fun a o h _ => h, ⟨⟨_, bag_ok0, trivial⟩, fun p hp => nomatch hp⟩, hW, fun p hp => nomatch hp⟩
  · rw [start_len, hd.len, frameE_len]
  · rcases frameE_get h with g | ⟨hi, rfl⟩
    · obtain ⟨v, hv, a⟩ := hd.at_ g
      refine ⟨some v, start_get hv, ?_⟩
      cases e <;> first
        | exact ⟨v, rfl, dp_mono (less_sub zz) a⟩
        | exact ⟨v, rfl, Stay.mono a (less_sub zz)⟩
        | exact False.elim a
    · have il : i < (L2.start N vs).length := by
        rw [start_len, hd.len]
        have := (List.getElem?_eq_some_iff.mp h).1
        rw [frameE_len] at this
        exact this
      exact ⟨(L2.start N vs)[i], List.getElem?_eq_getElem il, trivial⟩
  ) only [↓qt_eq])
theorem run0E {N : List Str} {Wd : Addr → Prop} {H : Hp} {vs : List V} {es : List En} {A : Rs → Prop} {t : TS} {Q : VK} (hW : ∀ a, Wd a → ∃ o, H a = some o) (hd : ArgAll K (less H Wd) vs es) (h : SW K cs W0 t (frameE N.length es) (rts0 A)) (q : okRs H K Wd Q A) :
    t { nx := fun _ H' => Q .non H', rt := Q } (L2.start N vs) H := qt_of (by simp (disch := with_unfolding_all
  refine h Wd noB (fun _ => 0) H H _ _ (sta0E hW hd) fun o p => ?_
  cases o with
  | rt x => exact fun v H' e _ _ d => q.1 x p v H' (xb_none e) (by rw [sz_none] at d; exact d)
  | rl c => exact fun a us H' e _ _ hn ho d => q.2 c p a us H' (xb_none e) hn ho (dpa_mono (less_sub fun b z => by rcases z with z | z; exact .inl (.inl z); exact .inr z) d)
  | nx G => exact fun ad H' σ S _ => q.1 _ p _ H' (xb_none fun a o h n => S.base a o h n) .non
  | bk G => exact p.elim
  | ct G => exact p.elim
  | ex e G => exact p.elim
  ) only [↓qt_eq])
theorem runXE {N : List Str} {Wd : Addr → Prop} {H : Hp} {vs : List V} {es : List En} {A : Rs → Prop} {t : TS} {Q : VK} {E : XK} (hW : ∀ a, Wd a → ∃ o, H a = some o) (hd : ArgAll K (less H Wd) vs es) (h : SW K cs (WD E) t (frameE N.length es) (rts A)) (q : okRs H K Wd Q A) (x : ∀ e, A (.er e) → ∀ d H', Ex H H' → H d = none → H' d = some (.xd e.fs) → E (.ref (cs e.cls)) (some d) H') :
    t { nx := fun _ H' => Q .non H', rt := Q } (L2.start N vs) H := qt_of (by simp (disch := with_unfolding_all
  refine h Wd noB (fun _ => 0) H H _ _ (sta0E hW hd) fun o p => ?_
  cases o with
  | rt x => exact fun v H' e _ _ d => q.1 x p v H' (xb_none e) (by rw [sz_none] at d; exact d)
  | rl c => exact fun a us H' e _ _ hn ho d => q.2 c p a us H' (xb_none e) hn ho (dpa_mono (less_sub fun b z => by rcases z with z | z; exact .inl (.inl z); exact .inr z) d)
  | nx G => exact fun ad H' σ S _ => q.1 _ p _ H' (xb_none fun a o h n => S.base a o h n) .non
  | bk G => exact p.elim
  | ct G => exact p.elim
  | ex e G => exact fun d ad H' σ S _ hn hx => x e p d H' (xb_none fun a o h n => S.base a o h n) hn (less_some hx).2
  ) only [↓qt_eq])
theorem okE {x qual : Str} {st : Stmt} {f : Addr} {fd : FuncData} {N ps : List Str} {k : Nat} {P : PrE} (cs : Cs) (F : Fun K x qual st f fd) (S : FnScope N ps (defScope st)) (hl : ∀ es A, P es A → es.length = ps.length)
    (hb : ∀ es A, P es A → ∀ (cdv : Value) (Ar : Around) (outer : List Env) (sh : Shared) (H : Hp) (E : XK), Room k (Ar.deeper (envOfC qual (defScope st) sh.heap.objs.size f cdv)) →
      ∃ t, PSs (cxOf CX0 Pg w K mg base N qual (defScope st) f cdv Ar outer sh H E).nox (defBody st) t ∧ SW K cs W0 t (frameE N.length es) (rts0 A)) : FnOk Pg w K mg base CX0 (k + 1) f fd ps (spE K P) := qt_of (by simp (disch := with_unfolding_all
  refine F.ok S (fun vs H Q E h => ?_) (fun cdv Ar outer sh H vs Q E hr h => ?_)
  · obtain ⟨Wd, es, A, _, hd, hp, _⟩ := h
    rw [hd.len]
    exact hl es A hp
  · obtain ⟨Wd, es, A, hW, hd, hp, q⟩ := h
    obtain ⟨t, ht, g⟩ := hb es A hp cdv Ar outer sh H E hr
    exact ⟨t, ht, run0E hW hd g q⟩
  ) only [↓qt_eq])
theorem okEX {x qual : Str} {st : Stmt} {f : Addr} {fd : FuncData} {N ps : List Str} {k : Nat} {P : PrE} (F : Fun K x qual st f fd) (S : FnScope N ps (defScope st)) (hl : ∀ es A, P es A → es.length = ps.length)
    (hb : ∀ es A, P es A → ∀ (cdv : Value) (Ar : Around) (outer : List Env) (sh : Shared) (H : Hp) (E : XK), Room k (Ar.deeper (envOfC qual (defScope st) sh.heap.objs.size f cdv)) →
      ∃ t, PSs (cxOf (L2.CX Pg w) Pg w K mg base N qual (defScope st) f cdv Ar outer sh H E) (defBody st) t ∧ SW K cs (WD E) t (frameE N.length es) (rts A)) : FnOk Pg w K mg base (L2.CX Pg w) (k + 1) f fd ps (spEX K cs P) := qt_of (by simp (disch := with_unfolding_all
  refine F.okX S (fun vs H Q E h => ?_) (fun cdv Ar outer sh H vs Q E hr h => ?_)
  · obtain ⟨Wd, es, A, _, hd, hp, _⟩ := h
    rw [hd.len]
    exact hl es A hp
  · obtain ⟨Wd, es, A, hW, hd, hp, q, x⟩ := h
    obtain ⟨t, ht, g⟩ := hb es A hp cdv Ar outer sh H E hr
    exact ⟨t, ht, runXE hW hd g q x⟩
  ) only [↓qt_eq])
end
/-! ### their calls -/
section
variable {K : Fg} {cs : Cs} {W : WX} {G : Gam} {φ : PyData → Prop} {χ : Own → Prop} {ε : Xw → Prop} {ta tr : TA} {te : TE} {E : XK} {P : PrE} {α : List En → Prop}
noncomputable def MA (K : Fg) (cs : Cs) (W : WX) (ta : TA) (G : Gam) (α : List En → Prop) (ε : Xw → Prop) : Prop :=
  ∀ Wd B ad H0 H σ, Sta K Wd B ad H0 H σ G → ∀ Q : List V → Hp → Prop, (∀ es, α es → ∀ vs H2, Sta K Wd B ad H0 H2 σ G → Xb B H H2 → ArgAll K (less H2 (Zs Wd B ad G)) vs es → Q vs H2) → XP K cs W Wd B ad H0 H σ G ε → ta σ H Q
theorem ma_nil (p : α []) : MA K cs W tNil G α ε := fun Wd B ad H0 H σ S Q q _ => q _ p _ H S Xb.refl .nil
theorem ma_d (h : EW K cs W te G (fun x => MA K cs W tr G (fun es => α (.d x :: es)) ε) ε) : MA K cs W (tCons te tr) G α ε := fun Wd B ad H0 H σ S Q q x =>
  h Wd B ad H0 H σ S _ (fun y p1 v H1 S1 e1 d1 => p1 Wd B ad H0 H1 σ S1 _ (fun es p2 vs H2 S2 e2 d2 => q _ p2 _ H2 S2 (e1.trans e2) (.cons (show ArgOk K _ v (.d y) from dp_mono (Xb.lz e2) d1) d2)) (x.go e1)) x
theorem ma_r (h : RW K cs W te G (fun ρ => MA K cs W tr G (fun es => α (.rv ρ :: es)) ε) ε) : MA K cs W (tCons te tr) G α ε := fun Wd B ad H0 H σ S Q q x =>
  h Wd B ad H0 H σ S _ (fun y p1 v H1 S1 e1 d1 => p1 Wd B ad H0 H1 σ S1 _ (fun es p2 vs H2 S2 e2 d2 => q _ p2 _ H2 S2 (e1.trans e2) (.cons (show ArgOk K _ v (.rv y) from Stay.mono d1 (Xb.lz e2)) d2)) (x.go e1)) x
theorem ew_callE (h : MA K cs W ta G (fun es => P es (rE φ fun _ => False)) ε) : EW K cs W (tCall (spE K P) [] E ta) G φ ε := fun Wd B ad H0 H σ S Q q x =>
  h Wd B ad H0 H σ S _ (fun es hp vs H1 S1 e1 d1 => ⟨Zs Wd B ad G, es, _, S1.there, by rw [List.append_nil]; exact d1, hp, fun y p v H' e d => q y p v H' (S1.ext e) (e1.trans (.of e)) d, fun c p a us H' e hn ho d => by
    obtain ⟨xs, rfl, p⟩ := p
    have S2 := S1.ext e
    refine q _ p _ H' S2 (e1.trans (.of e)) (.lst (sq_of (less_of (S1.fresh hn).2.2 ho)) (dpa_mono (less_sub fun b z => .inl z) d))⟩) x
theorem ew_callEX (h : MA K cs W ta G (fun es => P es (rE φ ε)) ε) : EW K cs W (tCallSD (spEX K cs P) [] (WE W) ta) G φ ε := fun Wd B ad H0 H σ S Q q x =>
  h Wd B ad H0 H σ S _ (fun es hp vs H1 S1 e1 d1 => ⟨Zs Wd B ad G, es, _, S1.there, by rw [List.append_nil]; exact d1, hp, ⟨fun y p v H' e d => q y p v H' (S1.ext e) (e1.trans (.of e)) d, fun c p a us H' e hn ho d => by
    obtain ⟨xs, rfl, p⟩ := p
    have S2 := S1.ext e
    refine q _ p _ H' S2 (e1.trans (.of e)) (.lst (sq_of (less_of (S1.fresh hn).2.2 ho)) (dpa_mono (less_sub fun b z => .inl z) d))⟩, fun e p d H' e2 hn hx => x e p d H' (S1.ext e2) (e1.trans (.of e2)) (S1.fresh hn).1 (less_of (S1.fresh hn).2.2 hx)⟩) x
end
end U.N

end
section
/-! More of values that are no data: lists put together, items, pairs, isinstance, targets. -/
namespace U.N
open PySem PyProof.Rows L2 Evl
section
variable {K : Fg} {cs : Cs} {W : WX} {G : Gam} {φ : Rho → Prop} {ψ : PyData → Prop} {Φ : Out → Prop} {ε : Xw → Prop} {γ : Gam → Prop} {ta tb te : TE}
/-! ### targets -/
end
end U.N

end
section
/-! Comprehensions whose item may raise. -/
namespace U.N
open PySem PyProof.Rows L2 Evl
section
variable {K : Fg} {cs : Cs} {W : WX} {G : Gam} {φ : PyData → Prop} {ε : Xw → Prop} {χ : Own → Prop} {ι : List PyData → Prop} {wi : TI} {g : TG} {tt : TT} {vs : List Nat} {Φ : Out → Prop}
variable {Wd : Addr → Prop} {B : Bt} {ad : Nat → Addr} {H0 H H1 H2 : Hp} {σ : St}
noncomputable def LcIX (K : Fg) (cs : Cs) (W : WX) (g : TG) (tt : TT) (te : WX → TE) (vs : List Nat) (G : Gam) (χ : Own → Prop) (ε : Xw → Prop) (ds : List PyData) : Prop :=
  ds.length ≤ 16000000 ∧ Unk vs G ∧ ∃ R : Nat → Option PyData → Prop, (∀ i x, ds[i]? = some x → ∀ os, Each R i os → GC K g vs G x (fun Gt => TW K cs W tt Gt (fun b => Cnd b (∀ W', EW K cs W' (te W') Gt (fun y => R i (some y)) ε) (R i none)) noX)) ∧ ∀ os, Each R ds.length os → χ (ol (opts os))
theorem ef_lcX {te : WX → TE} (h : IW K cs W wi G (LcIX K cs W g tt te vs G χ ε) ε) : EF K cs W (tLcX wi g tt te vs W) G χ ε := fun Wd B ad H0 H σ S Q q x =>
  h Wd B ad H0 H σ S _ (fun ds ⟨hz, hu, R, hs, hd⟩ J H1 S1 e1 ok Dl hD => by
    have hgu : ∀ i c, i ∈ vs → G[i]? ≠ some (.ow c) := fun i c hi g => by cases hu i _ hi g
    obtain ⟨L0, el0⟩ := S1.lend (o := .lst []) hD
    have fr := S1.fresh hD
    refine ⟨fun i m H' => m = ds.length - i ∧ i ≤ ds.length ∧ Sta K (fun a => Wd a ∨ a = Dl) B ad H0 H' σ G ∧ Ex (less H1 (Zs Wd B ad G)) (less H' (Zs (fun a => Wd a ∨ a = Dl) B ad G)) ∧ Xb B H1 H' ∧
      ∃ os acc, Each R i os ∧ H' Dl = some (.lst acc) ∧ DpAll K (less H' (Zs (fun a => Wd a ∨ a = Dl) B ad G)) acc (opts os), ⟨ds.length, rfl, Nat.zero_le _, L0, by rw [el0]; exact Ex.refl _, .of (Ex.new hD), [], [], each_nil, upd_same, .nil⟩, ?_⟩
    rintro i m H' ⟨rfl, hi, S', e', xb, os, acc, ha2, ha, hda⟩
    obtain ⟨k1, k2, k3⟩ := ok H' (Zs (fun a => Wd a ∨ a = Dl) B ad G) S'.there e' i
    by_cases hlt : i < ds.length
    · have hx : ds[i]? = some ds[i] := List.getElem?_eq_getElem hlt
      refine .inr ⟨k1 _ hx, fun H3 => Sta K (fun a => Wd a ∨ a = Dl) B ad H0 H3 σ G ∧ Ex (less H1 (Zs Wd B ad G)) (less H3 (Zs (fun a => Wd a ∨ a = Dl) B ad G)) ∧ Xb B H1 H3 ∧
        ∃ os acc, Each R (i + 1) os ∧ H3 Dl = some (.lst acc) ∧ DpAll K (less H3 (Zs (fun a => Wd a ∨ a = Dl) B ad G)) acc (opts os), fun H3 h3 => ⟨ds.length - (i + 1), by omega, rfl, hlt, h3⟩, fun v H'' hyl => ?_⟩
      obtain ⟨exd, dx⟩ := k3 v H'' hyl
      have S2 := (S'.ext exd).slots (σ' := wipe σ vs) (G' := G) (vs := vs) rfl (fun _ _ => rfl) hu hgu wipe_wipe.symm
      refine hs i _ hx os ha2 _ B ad H0 H'' _ v S2 (dx _ hx) _ fun Gt σ2 hte hl ho hw S3 e3 ew => ⟨by rw [ew, wipe_wipe], ?_⟩
      have own : ∀ (i : Nat) (c : Own), Gt[i]? = some (En.ow c) ↔ G[i]? = some (En.ow c) := fun i c => by
        by_cases hi : i ∈ vs
        · exact ⟨fun g => hw i c hi g, fun g => absurd g (hgu i c hi)⟩
        · rw [ho i hi]
      have eZ : Zs (fun a => Wd a ∨ a = Dl) B ad Gt = Zs (fun a => Wd a ∨ a = Dl) B ad G := zs_same own
      have back : ∀ {H5 : Hp}, Sta K (fun a => Wd a ∨ a = Dl) B ad H0 H5 σ2 Gt → Sta K (fun a => Wd a ∨ a = Dl) B ad H0 H5 σ G := fun {H5} S5 =>
        S5.slots (G' := G) (vs := vs) hl.symm (fun i hi => (ho i hi).symm) hu (fun i c hi g => hgu i c hi (hw i c hi g)) (by rw [ew, wipe_wipe])
      have hB : ¬ InB B Dl := fr.2.1
      have ha3 : H'' Dl = some (.lst acc) := exd _ _ ha
      have al : acc.length < sizeLine := by
        have h1 := dpa_len hda
        have h2 := opts_len os
        have h3 := ha2.1
        exact Nat.lt_of_lt_of_le (show acc.length < 16777216 by omega) (by decide)
      refine hte _ B ad H0 H'' σ2 S3 _ (fun b p H3 S4 e4 => ?_) xp_no
      have e4' : Ex (less H'' (Zs (fun a => Wd a ∨ a = Dl) B ad G)) (less H3 (Zs (fun a => Wd a ∨ a = Dl) B ad G)) := by
        have := Xb.lz (W := fun a => Wd a ∨ a = Dl) (ad := ad) (G := G) e4
        exact this
      have e5 : Ex (less H' (Zs (fun a => Wd a ∨ a = Dl) B ad G)) (less H3 (Zs (fun a => Wd a ∨ a = Dl) B ad G)) := (less_mono exd).trans e4'
      cases b with
      | false =>
        refine iteF ⟨back S4, e'.trans e5, (xb.trans (.of exd)).trans e4, os ++ [none], acc, ?_, e4 _ _ ha3 hB, ?_⟩
        · exact ha2.snoc (p.2 rfl)
        · rw [opts_snoc]
          show DpAll K _ acc (_ ++ [])
          rw [List.append_nil]
          exact dpa_mono e5 hda
      | true =>
        refine iteT ?_
        refine p.1 rfl _ _ B ad H0 H3 σ2 S4 _ (fun y py w H4 S5 e6 dw => ?_) fun ex hex d H4 S5 e6 hd hx4 => ?_
        rotate_left
        · obtain ⟨S6, m6⟩ := (back S5).back
          refine x ex hex d H4 S6 (((e1.trans xb).trans (.of exd)).trans e4 |>.trans e6) hd ?_
          rw [eZ] at hx4
          exact m6 _ _ hx4
        rw [eZ] at dw
        have S6 := back S5
        obtain ⟨S7, el7⟩ := S6.foreign (o := .lst (acc ++ [w])) (p := Dl) (.inr rfl) fr.1 hB
        have e6' := Xb.lz (W := fun a => Wd a ∨ a = Dl) (ad := ad) (G := G) e6
        refine ⟨acc, e6 _ _ (e4 _ _ ha3 hB) hB, al, S7, ?_, ?_, os ++ [some y], acc ++ [w], ?_, upd_same, ?_⟩
        · rw [el7]
          exact e'.trans (e5.trans e6')
        · intro a o g n
          have na : a ≠ Dl := ne_of_none g hD
          rw [upd_ne na]
          exact ((((xb.trans (.of exd)).trans e4).trans e6) a o g n)
        · exact ha2.snoc py
        · rw [el7, opts_snoc]
          exact dpa_app (dpa_mono (e5.trans e6') hda) (.cons dw .nil)
    · have en : i = ds.length := by omega
      subst en
      obtain ⟨S5, e5⟩ := S'.back
      obtain ⟨S6, x6, n6, l6⟩ := fl_go S1 xb S'.bag (fun p hp => (S'.tab p hp).mono (less_sub fun b z => z.elim (fun z => z.elim (fun z => .inl (.inl z)) .inr) fun z => .inl (.inr z)) rfl) hD ha
      refine .inl ⟨k2 (Nat.le_refl _), ?_⟩
      have k := q _ (hd os ha2) Dl acc _ S6 (e1.trans x6) n6 (by rw [l6, ← zs_lend]; exact hda)
      have k2 : Q (.ref Dl) (upd (less H' fun b => b = Dl) Dl (.lst acc)) := k
      rw [fl_upd ha] at k2
      exact k2) x

theorem ew_lcX {te : WX → TE} (h : IW K cs W wi G (LcIX K cs W g tt te vs G (fun c => ∃ xs, c = ol xs ∧ φ (.list xs)) ε) ε) : EW K cs W (tLcX wi g tt te vs W) G φ ε := ew_ef (ef_lcX h)
variable {β : Type} {xs : List β} {f : β → PyData}
/-- each item by what a partial function tells; the first refusal is let out -/
theorem lcXs {te : WX → TE} (r : β → Except Xw PyData) (hz : xs.length ≤ 16000000) (hu : Unk vs G)
    (hs : ∀ x, x ∈ xs → GC K g vs G (f x) (fun Gt => ∀ W', EW K cs W' (te W') Gt (fun y => r x = .ok y) (fun e => r x = .error e)))
    (hx : ∀ pre x post e, xs = pre ++ x :: post → (∀ y ∈ pre, ∃ v, r y = .ok v) → r x = .error e → ε e)
    (p : ∀ ys, All2 (fun x y => r x = .ok y) xs ys → χ (ol ys)) : LcIX K cs W g tYes te vs G χ ε (xs.map f) := by
  refine ⟨by rw [List.length_map]; exact hz, hu, fun i o => ∃ b y, xs[i]? = some b ∧ o = some y ∧ r b = .ok y, fun i x hx' os hos => ?_, fun os ha => ?_⟩
  · obtain ⟨b, hb, rfl, hm⟩ := map_at hx'
    refine gc_mono (hs b hm) fun Gt k => tw_yes (cnd_t fun W' => ?_)
    refine fun Wd B ad H0 H σ S Q q z => k W' Wd B ad H0 H σ S Q (fun y hy => q y ⟨b, y, hb, rfl, hy⟩) fun e he => z e ?_
    have il := (List.getElem?_eq_some_iff.mp hb).1
    refine hx (xs.take i) b (xs.drop (i + 1)) e ?_ (fun y hy => ?_) he
    · have := (List.getElem?_eq_some_iff.mp hb).2
      rw [← this, List.getElem_cons_drop, List.take_append_drop]
    · obtain ⟨j, hj⟩ := List.mem_iff_getElem?.mp hy
      have jl : j < i := by
        have := (List.getElem?_eq_some_iff.mp hj).1
        rw [List.length_take] at this
        omega
      have hj2 : xs[j]? = some y := by rw [← hj, List.getElem?_take_of_lt jl]
      have jo : j < os.length := by rw [hos.1]; exact jl
      obtain ⟨b', y', q1, _, q3⟩ := hos.2 j os[j] (List.getElem?_eq_getElem jo)
      rw [hj2] at q1; cases q1
      exact ⟨y', q3⟩
  · rw [List.length_map] at ha
    have h2 : All2 (fun x o => ∃ y, o = some y ∧ r x = .ok y) xs os := ha.all2 fun i x o hx ⟨b, y, hb, e, q⟩ => by rw [hx] at hb; cases hb; exact ⟨y, e, q⟩
    obtain ⟨ys, e, h3⟩ := h2.exists_map
    rw [e]
    have : opts (ys.map some) = ys := by
      unfold opts
      rw [List.filterMap_map]
      show ys.filterMap some = ys
      exact List.filterMap_some
    rw [this]
    exact p ys h3
end
end U.N

end
section
/-! Dicts with texts for keys: of one's own, and frozen. -/
namespace U.N
open PySem PyProof.Rows L2 Evl
noncomputable abbrev Sd := List (Str × PyData)
noncomputable def zd (kvs : Sd) (vs : List V) : List (Key × V) := (kvs.zip vs).map fun p => (Sum.inr p.1.1, p.2)
/-- a dict of one's own, keys texts -/
noncomputable def sd (kvs : Sd) : Own := ⟨kvs.map (·.2), fun _ vs => .dK (zd kvs vs)⟩
noncomputable def lookS (kvs : Sd) (z : Str) : Option PyData := (kvs.find? fun p => decide (p.1 = z)).map (·.2)
noncomputable def putS (kvs : Sd) (z : Str) (x : PyData) : Sd := if (lookS kvs z).isSome then kvs.map (fun p => if p.1 = z then (p.1, x) else p) else kvs ++ [(z, x)]
noncomputable def dropS (kvs : Sd) (z : Str) : Sd := kvs.filter fun p => decide (p.1 ≠ z)
section
variable {K : Fg} {M : Hp}
theorem lookS_cons {p : Str × PyData} {kvs : Sd} {z : Str} : lookS (p :: kvs) z = if p.1 = z then some p.2 else lookS kvs z := by
  unfold lookS
  rw [List.find?_cons]
  by_cases h : p.1 = z
  · simp [h]
  · simp [h]
theorem zd_cons {p : Str × PyData} {kvs : Sd} {v : V} {vs : List V} : zd (p :: kvs) (v :: vs) = (Sum.inr p.1, v) :: zd kvs vs := rfl
theorem zd_len {kvs : Sd} {vs : List V} (h : DpAll K M vs (kvs.map (·.2))) : (zd kvs vs).length = kvs.length := by
  have := dpa_len h
  unfold zd
  rw [List.length_map, List.length_zip, this, List.length_map]
  omega
theorem zd_val : ∀ {kvs : Sd} {vs : List V} {z : Str}, DpAll K M vs (kvs.map (·.2)) → (lookS kvs z = none ∧ valV (zd kvs vs) (.inr z) = none) ∨ ∃ x v, lookS kvs z = some x ∧ valV (zd kvs vs) (.inr z) = some v ∧ Dp K M v x
  | [], _, z, h => by cases h; exact .inl ⟨rfl, rfl⟩
  | p :: kvs, _, z, h => by
    cases h with
    | cons a t =>
      rw [lookS_cons, zd_cons]
      by_cases e : p.1 = z
      · rw [if_pos e, valV_pos (by rw [e])]
        exact .inr ⟨_, _, rfl, rfl, a⟩
      · rw [if_neg e, valV_neg (by intro q; exact e (Sum.inr.inj q))]
        exact zd_val t
theorem zd_app : ∀ {kvs : Sd} {vs : List V} {p : Str × PyData} {v : V}, DpAll K M vs (kvs.map (·.2)) → zd (kvs ++ [p]) (vs ++ [v]) = zd kvs vs ++ [(.inr p.1, v)]
  | [], _, p, v, h => by cases h; rfl
  | q :: kvs, _, p, v, h => by
    cases h with
    | cons a t => rw [List.cons_append, List.cons_append, zd_cons, zd_cons, zd_app t, List.cons_append]
theorem zd_map : ∀ {kvs : Sd} {vs : List V} {z : Str} {v : V} {x : PyData}, DpAll K M vs (kvs.map (·.2)) → Dp K M v x →
    ∃ us, DpAll K M us ((kvs.map fun p => if p.1 = z then (p.1, x) else p).map (·.2)) ∧ (zd kvs vs).map (fun kv => if kv.1 = Sum.inr z then (kv.1, v) else kv) = zd (kvs.map fun p => if p.1 = z then (p.1, x) else p) us
  | [], _, z, v, x, h, d => by cases h; exact ⟨[], .nil, rfl⟩
  | q :: kvs, _, z, v, x, h, d => by
    cases h with
    | @cons u _ _ _ a t =>
      obtain ⟨us, h1, h2⟩ := zd_map (z := z) t d
      by_cases e : q.1 = z
      · refine ⟨v :: us, ?_, ?_⟩
        · rw [List.map_cons, List.map_cons, if_pos e]; exact .cons d h1
        · rw [zd_cons, List.map_cons, List.map_cons, if_pos (by rw [e]), if_pos e, zd_cons, h2]
      · refine ⟨u :: us, ?_, ?_⟩
        · rw [List.map_cons, List.map_cons, if_neg e]; exact .cons a h1
        · rw [zd_cons, List.map_cons, List.map_cons, if_neg (fun q => e (Sum.inr.inj q)), if_neg e, zd_cons, h2]
theorem zd_put {kvs : Sd} {vs : List V} {z : Str} {v : V} {x : PyData} (h : DpAll K M vs (kvs.map (·.2))) (d : Dp K M v x) :
    ∃ us, DpAll K M us ((putS kvs z x).map (·.2)) ∧ L2.putK (zd kvs vs) (.inr z) v = zd (putS kvs z x) us := qt_of (by simp (disch := with_unfolding_all
  unfold putS L2.putK
  rw [valV_any]
  rcases zd_val (z := z) h with ⟨h1, h2⟩ | ⟨y, u, h1, h2, _⟩
  · rw [h1, h2, if_neg (by simp), if_neg (by simp)]
    exact ⟨vs ++ [v], by rw [List.map_append]; exact dpa_app h (.cons d .nil), (zd_app (p := (z, x)) h).symm⟩
  · rw [h1, h2, if_pos (by rfl), if_pos (by rfl)]
    exact zd_map h d
  ) only [↓qt_eq])
theorem zd_drop : ∀ {kvs : Sd} {vs : List V} {z : Str}, DpAll K M vs (kvs.map (·.2)) → ∃ us, DpAll K M us ((dropS kvs z).map (·.2)) ∧ dropK (zd kvs vs) (.inr z) = zd (dropS kvs z) us
  | [], _, z, h => by cases h; exact ⟨[], .nil, rfl⟩
  | q :: kvs, _, z, h => by
    cases h with
    | @cons u _ _ _ a t =>
      obtain ⟨us, h1, h2⟩ := zd_drop (z := z) t
      unfold dropS dropK at h2 ⊢
      unfold dropS at h1
      rw [zd_cons, List.filter_cons, List.filter_cons]
      by_cases e : q.1 = z
      · rw [if_neg (by simp [e]), if_neg (by simp [e])]
        exact ⟨us, h1, h2⟩
      · rw [if_pos (by simp [e]), if_pos (by simp [e])]
        exact ⟨u :: us, .cons a h1, by rw [h2, zd_cons]⟩
theorem zd_keys {kvs : Sd} {vs : List V} (h : DpAll K M vs (kvs.map (·.2))) : ((zd kvs vs).map fun kv => kV kv.1) = kvs.map fun p => V.str p.1 := qt_of (by simp (disch := with_unfolding_all
  have := dpa_len h
  rw [List.length_map] at this
  unfold zd
  rw [List.map_map]
  clear h
  induction kvs generalizing vs with
  | nil => rfl
  | cons p kvs ih =>
    cases vs with
    | nil => cases this
    | cons v vs =>
      rw [List.zip_cons_cons, List.map_cons, List.map_cons, ih (Nat.succ.inj this)]
      rfl
  ) only [↓qt_eq])
end
/-- a thing of the form c, that stays -/
noncomputable def ownR (K : Fg) (c : Own) : Rho := fun v M => ∃ a vs, v = .ref a ∧ M a = some (c.obj a vs) ∧ DpAll K M vs c.flat
noncomputable def rDictC : List V → Hp → VK → Prop := fun xs H Q => ∃ a kvs, xs = [.ref a] ∧ Rd H a (.dK kvs) ∧ ∀ p, H p = none → Q (.ref p) (upd H p (.dK kvs))
theorem call_dictC {X : Cx} : CallR X (.type "dict") rDictC := by
  intro pins s σ H xs us Q I r h
  obtain ⟨a, kvs, rfl, hk, q⟩ := h
  obtain ⟨u, rfl, rx⟩ := vals1 r
  obtain rfl : u = Value.ref a := rx
  exact d_copyOf I hk fun p s' hp I' => ⟨.ref p, _, I', rfl, q p hp⟩
/-- a slot holds the dict -/
noncomputable def SdAt (K : Fg) (G : Gam) (i : Nat) (kvs : Sd) : Prop := G[i]? = some (.ow (sd kvs)) ∨ G[i]? = some (.fz (sd kvs)) ∨ G[i]? = some (.rv (ownR K (sd kvs)))
section
variable {K : Fg} {cs : Cs} {W : WX} {G : Gam} {φ : PyData → Prop} {ε : Xw → Prop} {χ : Own → Prop} {Φ : Out → Prop} {te tk : TE} {tu : TS} {kvs : Sd} {i j : Nat}
variable {Wd : Addr → Prop} {B : Bt} {ad : Nat → Addr} {H0 H H1 H2 : Hp} {σ : St}
theorem SdAt.get (h : SdAt K G i kvs) (S : Sta K Wd B ad H0 H σ G) : ∃ a vs, σ[i]? = some (some (.ref a)) ∧ H a = some (.dK (zd kvs vs)) ∧ DpAll K (less H (Zs Wd B ad G)) vs (kvs.map (·.2)) := qt_of (by simp (disch := with_unfolding_all
  rcases h with h | h | h
  · obtain ⟨o, g1, rfl, vs, g3, g4⟩ := S.at_ i _ h
    exact ⟨_, vs, g1, g3, g4⟩
  · obtain ⟨o, g1, a, vs, rfl, g3, g4⟩ := S.at_ i _ h
    exact ⟨_, vs, g1, (less_some g3).2, g4⟩
  · obtain ⟨o, g1, v, rfl, g⟩ := S.at_ i _ h
    obtain ⟨a, vs, rfl, g3, g4⟩ := g _ (Ex.refl _)
    exact ⟨_, vs, g1, (less_some g3).2, g4⟩
  ) only [↓qt_eq])
/-- {} -/
theorem ef_sd0 (p : χ (sd [])) : EF K cs W tDNewK G χ ε := fun Wd B ad H0 H σ S Q q _ a ha => q _ p a [] H S Xb.refl ha .nil
/-- {'a': 1, ..} -/
theorem tPairs_lit {σ : St} {H : Hp} {Q : List (V × V) → Hp → Prop} : ∀ {l : List (Str × Int)}, Q (l.map fun p => (V.str p.1, V.int p.2)) H → tPairs (l.map fun p => (tC (V.str p.1), tC (V.int p.2))) σ H Q
  | [], h => h
  | p :: l, h => tPairs_lit (l := l) (Q := fun ps H3 => Q ((V.str p.1, V.int p.2) :: ps) H3) h
noncomputable def litS (l : List (Str × Int)) : Sd := l.map fun p => (p.1, .int p.2)
theorem merge_lit : ∀ (more acc : List (Key × V)), (more.map (·.1)).Nodup → (∀ k ∈ more.map (·.1), valV acc k = none) → mergeK acc more = acc ++ more
  | [], acc, _, _ => (List.append_nil _).symm
  | p :: more, acc, h, h2 => by
    rw [List.map_cons, List.nodup_cons] at h
    show mergeK (L2.putK acc p.1 p.2) more = _
    rw [putK_new p.2 (h2 p.1 (by simp)), merge_lit more _ h.2 fun k hk => ?_, List.append_assoc]
    · rfl
    · rw [valV_snoc p.1 k p.2 acc (h2 p.1 (by simp)), if_neg (fun e => h.1 (by rw [← e]; exact hk))]
      exact h2 k (List.mem_cons_of_mem _ hk)
theorem nodup_inr : ∀ {l : List (Str × Int)}, (l.map (·.1)).Nodup → (l.map ((fun x : Key × V => x.1) ∘ fun p => ((Sum.inr p.1 : Key), V.int p.2))).Nodup
  | [], _ => List.nodup_nil
  | p :: l, h => by
    rw [List.map_cons, List.nodup_cons] at h ⊢
    refine ⟨fun hm => h.1 ?_, nodup_inr h.2⟩
    obtain ⟨q, hq, e⟩ := List.mem_map.mp hm
    exact List.mem_map.mpr ⟨q, hq, Sum.inr.inj e⟩
theorem ef_sdL {l : List (Str × Int)} (hn : (l.map (·.1)).Nodup) (hl : l.length ≤ 15) (p : χ (sd (litS l))) : EF K cs W (tDisp (l.map fun p => (tC (V.str p.1), tC (V.int p.2)))) G χ ε := fun Wd B ad H0 H σ S Q q _ a ha => by
  refine tPairs_lit ⟨upd_same, l.map fun p => (.inr p.1, V.int p.2), by rw [List.map_map]; rfl, by rw [List.length_map]; exact hl, ?_⟩
  rw [upd_upd, merge_lit _ _ ?_ (fun k _ => rfl), List.nil_append]
  · have e : (l.map fun p => ((Sum.inr p.1 : Key), V.int p.2)) = zd (litS l) (l.map fun p => V.int p.2) := by
      unfold litS zd
      clear hn hl p
      induction l with
      | nil => rfl
      | cons x l ih => rw [List.map_cons, List.map_cons, List.map_cons, List.zip_cons_cons, List.map_cons, ← ih]
    rw [e]
    refine q _ p a _ H S Xb.refl ha ?_
    show DpAll K _ _ ((litS l).map (·.2))
    unfold litS
    rw [List.map_map]
    clear e hn hl p
    induction l with
    | nil => exact .nil
    | cons x l ih => exact .cons (.int _) ih
  · rw [List.map_map]
    exact nodup_inr hn
/-- k in d, k not in d -/
theorem ew_sdIn (h : EW K cs W tk G (fun x => ∃ z kvs, x = .str z ∧ SdAt K G i kvs ∧ φ (.bool (lookS kvs z).isSome)) ε) : EW K cs W (tDIn tk (tVar i)) G φ ε := fun Wd B ad H0 H σ S Q q x =>
  h Wd B ad H0 H σ S _ (fun y ⟨z, kvs, e, hd, p⟩ v H1 S1 e1 d1 => by
    subst e
    cases d1
    obtain ⟨a, vs, g1, g2, g3⟩ := hd.get S1
    refine ⟨_, g1, a, _, rfl, DGet.k (k := Sum.inr z) g2, ?_⟩
    have e : (valV (zd kvs vs) (Sum.inr z)).isSome = (lookS kvs z).isSome := by rcases zd_val (z := z) g3 with ⟨h1, h2⟩ | ⟨y, u, h1, h2, _⟩ <;> rw [h1, h2] <;> rfl
    rw [e]
    exact q _ p _ H1 S1 e1 (.bl _)) x
theorem ew_sdNot (h : EW K cs W tk G (fun x => ∃ z kvs, x = .str z ∧ SdAt K G i kvs ∧ φ (.bool (!(lookS kvs z).isSome))) ε) : EW K cs W (tDNotIn tk (tVar i)) G φ ε := fun Wd B ad H0 H σ S Q q x =>
  h Wd B ad H0 H σ S _ (fun y ⟨z, kvs, e, hd, p⟩ v H1 S1 e1 d1 => by
    subst e
    cases d1
    obtain ⟨a, vs, g1, g2, g3⟩ := hd.get S1
    refine ⟨_, g1, a, _, rfl, DGet.k (k := Sum.inr z) g2, ?_⟩
    have e : (valV (zd kvs vs) (Sum.inr z)).isSome = (lookS kvs z).isSome := by rcases zd_val (z := z) g3 with ⟨h1, h2⟩ | ⟨y, u, h1, h2, _⟩ <;> rw [h1, h2] <;> rfl
    rw [e]
    exact q _ p _ H1 S1 e1 (.bl _)) x
/-- d[k] -/
theorem ew_sdGet (hd : SdAt K G i kvs) (h : EW K cs W tk G (fun x => ∃ z y, x = .str z ∧ lookS kvs z = some y ∧ φ y) ε) : EW K cs W (tDGet (tVar i) tk) G φ ε := fun Wd B ad H0 H σ S Q q x => by
  obtain ⟨a, vs, g1, g2, g3⟩ := hd.get S
  refine ⟨_, g1, h Wd B ad H0 H σ S _ (fun x ⟨z, y, e, l, p⟩ v H1 S1 e1 d1 => ?_) x⟩
  subst e
  cases d1
  obtain ⟨a', us, g4, g5, g6⟩ := hd.get S1
  rw [g1] at g4; cases g4
  rcases zd_val (z := z) g6 with ⟨h1, h2⟩ | ⟨y', u, h1, h2, d⟩
  · rw [l] at h1; cases h1
  · rw [l] at h1; cases h1
    exact ⟨a, u, rfl, by rw [← h2]; exact DGet.k (k := Sum.inr z) g5, q _ p u H1 S1 e1 d⟩
/-- d[k] = v -/
theorem sw_sdPut {tv : TE} (hi : G[i]? = some (.ow (sd kvs))) (hl : kvs.length < 16000000) (h : EW K cs W tv G (fun x => EW K cs W tk G (fun y => ∃ z, y = .str z ∧ Φ (.nx (G.set i (.ow (sd (putS kvs z x)))))) (fun e => Φ (.ex e G))) (fun e => Φ (.ex e G))) : SW K cs W (sDPut (tVar i) tk tv) G Φ := fun Wd B ad H0 H σ D S q =>
  h Wd B ad H0 H σ S _ (fun x p v H1 S1 e1 d1 => by
    obtain ⟨o, g1, rfl, _⟩ := S1.at_ i _ hi
    refine ⟨_, g1, p Wd B ad H0 H1 σ S1 _ (fun y ⟨z, e, p⟩ w H2 S2 e2 d2 => ?_) ((post_xp q).go e1)⟩
    subst e
    cases d2
    obtain ⟨o, g1, rfl, vs, g3, g4⟩ := S2.at_ i _ hi
    have g3 : H2 (ad i) = some (.dK (zd kvs vs)) := g3
    have g4 : DpAll K (less H2 (Zs Wd B ad G)) vs (kvs.map (·.2)) := g4
    obtain ⟨us, h1, h2⟩ := zd_put (z := z) g4 (dp_mono (Xb.lz e2) d1)
    refine ⟨_, _, rfl, DPut.k (k := Sum.inr z) g3 (by rw [zd_len g4]; exact Nat.lt_of_lt_of_le hl (by decide)), ?_⟩
    rw [h2]
    exact q _ p ad _ σ (S2.chg (c' := sd (putS kvs z x)) hi h1) ((Xb.lz (e1.trans e2)).trans (chg_ex hi))) (post_xp q)
/-- d.pop(k) -/
theorem sw_sdPop (hi : G[i]? = some (.ow (sd kvs))) (h : EW K cs W tk G (fun y => ∃ z, y = .str z ∧ (lookS kvs z).isSome = true ∧ Φ (.nx (G.set i (.ow (sd (dropS kvs z)))))) (fun e => Φ (.ex e G))) : SW K cs W (tDrop (tDPop1 (tVar i) tk)) G Φ := fun Wd B ad H0 H σ D S q => by
  obtain ⟨o, g1, rfl, vs, g3, g4⟩ := S.at_ i _ hi
  have g3 : H (ad i) = some (.dK (zd kvs vs)) := g3
  refine ⟨_, g1, _, rfl, .inl ⟨_, .inl g3⟩, h Wd B ad H0 H σ S _ (fun y ⟨z, e, l, p⟩ w H1 S1 e1 d1 => ?_) (post_xp q)⟩
  subst e
  cases d1
  obtain ⟨o, _, _, us, g5, g6⟩ := S1.at_ i _ hi
  have g5 : H1 (ad i) = some (.dK (zd kvs us)) := g5
  have g6 : DpAll K (less H1 (Zs Wd B ad G)) us (kvs.map (·.2)) := g6
  rcases zd_val (z := z) g6 with ⟨h1, h2⟩ | ⟨y', u, h1, h2, d⟩
  · rw [h1] at l; cases l
  obtain ⟨ws, h3, h4⟩ := zd_drop (z := z) g6
  refine ⟨_, Sum.inr z, u, g5, rfl, h2, ?_⟩
  rw [h4]
  exact q _ p ad _ σ (S1.chg (c' := sd (dropS kvs z)) hi h3) ((Xb.lz e1).trans (chg_ex hi))
/-- list(d) -/
theorem ef_sdList (hd : SdAt K G i kvs) (p : χ (ol (kvs.map fun p => .str p.1))) : EF K cs W (tCB L2.rListD (tCons (tVar i) tNil)) G χ ε := fun Wd B ad H0 H σ S Q q x => by
  obtain ⟨a, vs, g1, g2, g3⟩ := hd.get S
  refine ⟨_, g1, a, _, rfl, g2, fun l hl => ?_⟩
  rw [zd_keys g3]
  refine q _ p l (kvs.map fun p => V.str p.1) H S Xb.refl hl ?_
  show DpAll K _ _ (kvs.map fun p => PyData.str p.1)
  clear g2 g3 p hd
  induction kvs with
  | nil => exact .nil
  | cons x kvs ih => exact .cons (.str _) ih
/-- dict(d) -/
theorem ef_sdCopy (hd : SdAt K G i kvs) (p : χ (sd kvs)) : EF K cs W (tCB rDictC (tCons (tVar i) tNil)) G χ ε := fun Wd B ad H0 H σ S Q q x => by
  obtain ⟨a, vs, g1, g2, g3⟩ := hd.get S
  exact ⟨_, g1, a, _, rfl, .inl g2, fun l hl => q _ p l vs H S Xb.refl hl g3⟩
theorem zd_lit {M : Hp} : ∀ {l : List (Str × Int)} {vs : List V}, DpAll K M vs ((litS l).map (·.2)) → zd (litS l) vs = l.map fun p => (Sum.inr p.1, V.int p.2)
  | [], _, _ => rfl
  | p :: l, _, h => by
    cases h with
    | cons a t =>
      cases a
      have e : zd (litS l) _ = _ := zd_lit t
      show (Sum.inr p.1, _) :: zd (litS l) _ = _
      rw [e]
      rfl
theorem valV_lit : ∀ {l : List (Str × Int)}, (l.map (·.1)).Nodup → ∀ p ∈ l, valV (l.map fun p => ((Sum.inr p.1 : Key), V.int p.2)) (Sum.inr p.1) = some (V.int p.2)
  | q :: l, hn, p, hp => by
    rw [List.map_cons, List.nodup_cons] at hn
    rw [List.map_cons]
    rcases List.mem_cons.mp hp with rfl | h
    · exact valV_pos rfl
    · rw [valV_neg (fun e => hn.1 (by rw [Sum.inr.inj e]; exact List.mem_map.mpr ⟨p, h, rfl⟩))]
      exact valV_lit hn.2 p h
/-- d != e, the same pairs -/
theorem ew_sdNe {l : List (Str × Int)} (hn : (l.map (·.1)).Nodup) (hd : SdAt K G i (litS l)) (he : SdAt K G j (litS l)) (p : φ (.bool false)) : EW K cs W (tOp rNeDA (tVar i) (tVar j)) G φ ε := fun Wd B ad H0 H σ S Q q x => by
  obtain ⟨a, vs, g1, g2, g3⟩ := hd.get S
  obtain ⟨b, us, k1, k2, k3⟩ := he.get S
  rw [zd_lit g3] at g2
  rw [zd_lit k3] at k2
  refine ⟨_, g1, _, k1, a, b, _, _, rfl, rfl, g2, k2, rfl, fun r hr => ?_, q _ p _ H S Xb.refl (.bl _)⟩
  obtain ⟨r', hr', rfl⟩ := List.mem_map.mp hr
  exact ⟨valV_lit hn r' hr', rfl⟩
/-- a thing of one's own stays from now on as it is, and may be handed over -/
theorem sw_freezeR {c : Own} (hi : G[i]? = some (.ow c)) (h : SW K cs W tu (G.set i (.rv (ownR K c))) Φ) : SW K cs W tu G Φ := fun Wd B ad H0 H σ D S q => by
  have S1 := S.freezeO hi
  have il : i < G.length := (List.getElem?_eq_some_iff.mp hi).1
  obtain ⟨o, g1, a, vs, rfl, g3, g4⟩ := S1.at_ i _ (List.getElem?_set_self il)
  have S2 := S1.set (i := i) (o := some (.ref a)) (e := .rv (ownR K c)) (fun _ z => by cases z) ⟨_, rfl, fun M m => ⟨a, vs, rfl, m _ _ g3, dpa_mono m g4⟩⟩
  rw [List.set_set] at S2
  have eσ : σ.set i (some (.ref a)) = σ := by
    apply List.ext_getElem?
    intro n
    by_cases z : i = n
    · subst z
      rw [List.getElem?_set_self (by rw [S.len]; exact il), g1]
    · rw [List.getElem?_set_ne z]
  rw [eσ] at S2
  exact h Wd B ad H0 H σ D S2 fun o p => (q o p).mono (less_sub fun a z => Zs.set_of (fun _ z => by cases z) z)
end
end U.N

end
section
/-! Defs that call themselves. -/
namespace U.N
open PySem PyProof.Rows L2 Evl
section
variable {Pg : Program} {w : World} {K : Fg} {mg : Str → Option Value} {base : Heap} {cs : Cs} {vs : List V} {H : Hp} {Q : VK} {E : XK}
theorem fnok_none {CX : CXT} {k : Nat} {f : Addr} {fd : FuncData} {ps : List Str} {sp : Sp} (h : ∀ vs H Q E, sp vs H Q E → False) : FnOk Pg w K mg base CX k f fd ps sp :=
  ⟨fun vs H Q E z => (h _ _ _ _ z).elim, fun A outer s H args us vs Q E _ _ _ _ z => (h _ _ _ _ z).elim⟩
theorem no_W0 {P : Pr} (n : ∀ ds A, P ds A → False) (h : spW0 K P vs H Q E) : False := by obtain ⟨_, _, _, _, _, h, _⟩ := h; exact n _ _ h
theorem no_WB {P : Pr} (n : ∀ ds A, P ds A → False) (h : spWB K P vs H Q E) : False := by obtain ⟨_, _, _, _, _, _, _, _, _, _, h, _⟩ := h; exact n _ _ h
theorem no_E {P : PrE} (n : ∀ ds A, P ds A → False) (h : spE K P vs H Q E) : False := by obtain ⟨_, _, _, _, _, h, _⟩ := h; exact n _ _ h
theorem no_EX {P : PrE} (n : ∀ ds A, P ds A → False) (h : spEX K cs P vs H Q E) : False := by obtain ⟨_, _, _, _, _, h, _⟩ := h; exact n _ _ h
end
end U.N

end
namespace U.N
open PySem PyProof.Rows L2 Evl
section
local macro_rules | `(tactic| walk_at "sd") => `(tactic| first | with_reducible assumption | omega | rfl | decide | assumption | exact Gd.mono (by assumption) (by first | decide | omega) | (simp only [List.length_map, List.length_append, List.length_cons, List.length_nil]; omega) | (simp; done))
local macro_rules | `(tactic| walk_at "ca") => `(tactic| first
  | ((with_reducible apply c_pull); (case h0 => walk_at "sd"); (case h1 => walk_at "sd"); intro _ _ _)
  | ((with_reducible apply c_map); (case h1 => walk_at "sd"); (case h2 => walk_at "sd"); (case l1 => walk_at "sd"); (case l2 => walk_at "sd"); intro _ _))
local macro_rules | `(tactic| walk_at "s1") => `(tactic| first
  | ((with_reducible apply x_all); (case h => exact allB_map))
  | ((with_reducible apply x_any); (case h => exact anyB_map))
  | ((with_reducible apply x_sum); (case h => exact sumI_map))
  | ((with_reducible apply ew_glob); (case h => assumption))
  | ((with_reducible apply sw_app); (case hi => rfl); (case hl => walk_at "sd"))
  | ((with_reducible apply cw_elt); (case hm => walk_at "sd"))
  | ((with_reducible apply sw_clear); (case hi => rfl))
  | ((with_reducible apply x1_rng); (case hb => walk_at "sd"))
  | ((with_reducible apply x2_rng); (case hb => walk_at "sd"); (case hc => walk_at "sd"))
  | ((with_reducible apply ew_var); (case h => rfl))
  | ((with_reducible apply ew_tupO); (case hi => rfl))
  | ((with_reducible apply ew_callB); (case hi => rfl))
  | ((with_reducible apply ew_callWB); (case hi => rfl))
  | ((with_reducible apply at0); (case h => rfl))
  | ((with_reducible apply at1); (case h => rfl))
  | ((with_reducible apply xi_it); (case h => rfl))
  | ((with_reducible apply x1_it); (case h => rfl))
  | ((with_reducible apply ew_inSO); (case hi => rfl))
  | with_reducible refine ew_int ?_
  | with_reducible refine ew_bl ?_
  | with_reducible refine ew_str ?_
  | with_reducible refine ew_tup2 ?_
  | with_reducible refine ew_tup3 ?_
  | with_reducible refine ew_tup ?_
  | with_reducible refine ew_lst0 ?_
  | with_reducible refine ew_lst1 ?_
  | with_reducible refine ew_lst2 ?_
  | with_reducible refine ew_lst3 ?_
  | with_reducible refine ew_lst ?_
  | with_reducible refine ew_add ?_
  | with_reducible refine ew_sub ?_
  | with_reducible refine ew_pow ?_
  | with_reducible refine ew_lt ?_
  | with_reducible refine ew_gt ?_
  | with_reducible refine ew_neg ?_
  | with_reducible refine ew_eq ?_
  | with_reducible refine ew_ne ?_
  | with_reducible refine tw_test ?_
  | with_reducible refine tw_B ?_
  | with_reducible refine tw_yes ?_
  | with_reducible refine tw_not ?_
  | with_reducible refine tw_and ?_
  | with_reducible refine tw_or ?_
  | with_reducible refine ew_if ?_
  | with_reducible refine aw_nil ?_
  | with_reducible refine aw_cons ?_
  | with_reducible refine ew_cP ?_
  | with_reducible refine ew_c0 ?_
  | with_reducible refine ew_len ?_
  | with_reducible refine ew_list ?_
  | with_reducible refine ew_isi ?_
  | with_reducible refine ow_none ?_
  | with_reducible refine ow_some ?_
  | with_reducible refine ew_slL ?_
  | with_reducible refine ew_slA ?_
  | with_reducible refine ew_catL ?_
  | with_reducible refine ew_lc ?_
  | with_reducible refine ew_inS ?_
  | with_reducible refine iw_list ?_
  | with_reducible refine iw_rng1 ?_
  | with_reducible refine sq_nx ?_
  | with_reducible refine sq_rt ?_
  | with_reducible refine lp_nx ?_
  | with_reducible refine lp_rt ?_
  | with_reducible refine sw_next ?_
  | with_reducible refine sw_if ?_
  | with_reducible refine sw_ret ?_
  | with_reducible refine sw_for ?_
  | with_reducible refine gsc_nil ?_
  | with_reducible refine gsc_cons ?_
  | with_reducible refine xi_int ?_
  | with_reducible refine xi_bool ?_
  | with_reducible refine xi_str ?_
  | with_reducible refine xi_tup ?_
  | with_reducible refine xi_list ?_
  | with_reducible refine sc_int ?_
  | with_reducible refine sc_str ?_
  | with_reducible refine x_ol ?_
  | with_reducible refine x_nx ?_
  | with_reducible refine ew_ix ?_
  | with_reducible refine ew_callNW ?_
  | with_reducible refine ew_callN ?_
  | with_reducible refine ew_callN0 ?_
  | with_reducible refine gw_name ?_
  | ((with_reducible refine gc_name ?wa ?_); (case wa => simp))
  | ((with_reducible refine gc_tup ?wa ?_); (case wa => rfl))
  | ((with_reducible refine gw_tup ?wa ?_); (case wa => rfl))
  | with_reducible refine cnd_t ?_
  | with_reducible refine cnd_f ?_
  | with_reducible refine cnd_nt ?_
  | with_reducible refine cnd_nf ?_
  | walk_at "ca"
  | ((with_reducible apply zip_f); (case hx => rfl); (case hy => rfl))
  | ((with_reducible apply zip_t); (case hx => rfl); (case hy => rfl); (case hl => walk_at "sd"))
  | with_reducible refine sw_asg ?_
  | ((with_reducible apply sw_dset); (case hi => rfl))
  | ((with_reducible apply sw_setI); (case hi => rfl))
  | with_reducible refine sw_asgT ?_
  | refine gsw_cons ?_
  | refine gsc_cons ?_
  | refine gsw_nil ?_
  | refine gsc_nil ?_
  | with_reducible exact trivial)
local macro_rules | `(tactic| walk_at "w1") => `(tactic| first | walk_at "s1" | with_reducible refine sw_seqA ?_ | with_reducible refine sw_seqD ?_ | with_reducible refine sw_seqF ?_ | with_reducible refine sw_seqP ?_ | with_reducible refine sw_seqG ?_ | with_reducible refine sw_seqW ?_)
local macro_rules | `(tactic| walk_at "s") => `(tactic| repeat walk_at "s1")
local macro_rules | `(tactic| walk_at "ef") => `(tactic| first
  | with_reducible refine ef_lst0 ?_
  | with_reducible refine ef_lst1 ?_
  | with_reducible refine ef_lst2 ?_
  | with_reducible refine ef_lst3 ?_
  | with_reducible refine ef_lst ?_
  | with_reducible refine ef_lc ?_
  | with_reducible refine ef_list ?_
  | with_reducible refine ef_slL ?_
  | with_reducible refine ef_catL ?_)
local macro_rules | `(tactic| walk_at "wi") => `(tactic| repeat (first | walk_at "w1" | with_reducible refine sw_seq ?_))
local macro_rules | `(tactic| walk_at "w") => `(tactic| repeat walk_at "w1")
section
open PySem PyProof.Rows L2 Evl

section
variable {K : Fg} {cs : Cs} {gs : Gs} {φ : PyData → Prop} {A : Rs → Prop} {ε : Xw → Prop} {w : World}
/-! ### spots in order -/
-- slots of common_below: 0 spots, 1 found, 2 spot, 3 above, 4 below
-- slots of whole_row: 0 spot, 1 common, 2 above, 3 below
-- slots of rising: 0 spots, 1 common, 2 by_worth, 3 spot, 4 key
/-! what a dict by a comprehension holds -/
section
variable {κ β γ : Type} [DecidableEq κ]
end
end


end
section
open PySem PyProof.Rows L2 Evl

section
variable {K : Fg} {cs : Cs} {gs : Gs} {φ : PyData → Prop} {A : Rs → Prop} {ε : Xw → Prop} {w : World}
/-! ### the law's own order -/
-- slots of _law_below: 0 _law_spots_here, 1 _law_found, 2 _law_spot_here, 3 _law_one
-- slots of _law_key: 0 _law_spots_here, 1 _law_below_here, 2 _law_found, 3 _law_spot_here, 4 _law_one
-- slots of _law_rising: 0 _law_spots_here, 1 _law_below_here, 2 _law_keys, 3 _law_found, 4 _law_key_here, 5 _law_spot_here, 6 _law_one
end


end
section
open PySem PyProof.Rows L2 Evl U.Hull

section
variable {K : Fg} {cs : Cs} {gs : Gs} {φ : PyData → Prop} {A : Rs → Prop} {ε : Xw → Prop} {w : World}
/-! ### corners round -/
-- slots of hull_side: 0 spots, 1 found, 2 spot
end


end
section
open PySem PyProof.Rows L2 Evl U.Hull

section
variable {K : Fg} {cs : Cs} {gs : Gs} {φ : PyData → Prop} {A : Rs → Prop} {ε : Xw → Prop} {w : World}
-- slots of corners_round: 0 spots, 1 row, 2 below, 3 above
end


end
section
open PySem PyProof.Rows L2 Evl U.Hull

section
variable {K : Fg} {cs : Cs} {gs : Gs} {φ : PyData → Prop} {A : Rs → Prop} {ε : Xw → Prop} {w : World}
/-! ### the law's own body -/
noncomputable instance (h r q : Pt) : Decidable (Btw h r q) := by unfold Btw; exact inferInstance
-- slots of _law_between: 0 _law_one, 1 _law_two, 2 _law_spot_here, 3 _law_at
/-! what follows a corner -/
noncomputable instance (P : List Pt) (h q : Pt) : Decidable (Nx P h q) := by unfold Nx; exact inferInstance
-- slots of _law_next: 0 _law_row, 1 _law_here, 2 _law_spot_here, 3 _law_one
end


end
section
open PySem PyProof.Rows L2 Evl U.Hull

section
variable {K : Fg} {cs : Cs} {gs : Gs} {φ : PyData → Prop} {A : Rs → Prop} {ε : Xw → Prop} {w : World}
-- slots of _law_body: 0 _law_spots_here, 1 _law_row, 2 _law_found, 3 _law_step, 4 _law_spot_here
end


end
section
open PySem PyProof.Rows L2 Evl U.Hull

section
variable {K : Fg} {cs : Cs} {gs : Gs} {φ : PyData → Prop} {A : Rs → Prop} {ε : Xw → Prop} {w : World}
/-! ### drawn rooms and spots -/
-- slots of _law_room: 0 _law_bag_here
theorem atI_in {α : Type} {f : α → PyData} {xs : List α} {j : Int} (h0 : 0 ≤ j) (h1 : j < xs.length) : ∃ s ∈ xs, atI (xs.map f) j = some (f s) := by
  obtain ⟨k, rfl⟩ := Int.eq_ofNat_of_zero_le h0
  have hk : k < xs.length := by omega
  exact ⟨xs[k], List.getElem_mem _, atI_nat (by rw [List.getElem?_map, List.getElem?_eq_getElem hk]; rfl)⟩
-- slots of _law_spots: 0 _law_bag_here, 1 _law_rank, 2 _law_limit, 3 _law_many, 4 _law_found, 5 _law_kind, 6 _law_one, 7 _law_two, 8 _law_at
-- slots of _law_wide_spots: 0 _law_bag_here, 1 _law_rank, 2 _law_limit, 3 _law_found, 4 _law_k, 5 _law_at
end


end
section
/-! Likeness of deeper data. -/
open PySem PyProof.Rows L2 Evl
noncomputable abbrev t_like16 := @t__law_like
theorem ln_like16 {n : Nat} : ∀ ds r, P_like (n + 1) ds r → ds.length = 2 := ln__law_like
theorem rd_like16 {K : Fg} {n : Nat} {ds r} (h : P_like (n + 1) ds r) (b : Bag) : SG K (t_like16 K n) (U.frame 3 ds) b (.rt r b) := rd__law_like h b
theorem c_like16 {φ : PyData → Prop} {x y : PyData} (e : x = y) (hy : okD 15 y = true) (h : φ (.bool true)) : ∃ r, P_like 16 [x, y] r ∧ φ r := by
  subst e
  exact ⟨_, ⟨x, rfl, hy, rfl⟩, h⟩


end
end
section
local macro_rules | `(tactic| walk_at "sd") => `(tactic| first | with_reducible assumption | omega | rfl | decide | assumption | exact Gd.mono (by assumption) (by first | decide | omega) | (simp only [List.length_map, List.length_append, List.length_cons, List.length_nil]; omega) | (simp; done))
local macro_rules | `(tactic| walk_at "ca") => `(tactic| first
  | ((with_reducible apply c_pull); (case h0 => walk_at "sd"); (case h1 => walk_at "sd"); intro _ _ _)
  | ((with_reducible apply c_map); (case h1 => walk_at "sd"); (case h2 => walk_at "sd"); (case l1 => walk_at "sd"); (case l2 => walk_at "sd"); intro _ _))
local macro_rules | `(tactic| walk_at "keo") => `(tactic| first
  | ((with_reducible apply ew_inSO); (case hi => rfl))
  | with_reducible refine ew_add ?_
  | with_reducible refine ew_sub ?_
  | with_reducible refine ew_pow ?_
  | with_reducible refine ew_lt ?_
  | with_reducible refine ew_gt ?_
  | with_reducible refine ew_eq ?_
  | with_reducible refine ew_ne ?_
  | with_reducible refine ew_catL ?_
  | with_reducible refine ew_inS ?_
  | with_reducible refine ew_ix ?_)
local macro_rules | `(tactic| walk_at "keb") => `(tactic| first
  | ((with_reducible apply ew_tupO); (case hi => rfl))
  | with_reducible refine ew_len ?_
  | with_reducible refine ew_list ?_
  | with_reducible refine ew_isi ?_)
local macro_rules | `(tactic| walk_at "kec") => `(tactic| first
  | ((with_reducible apply ew_glob); (case h => assumption))
  | with_reducible refine ew_int ?_
  | with_reducible refine ew_bl ?_
  | with_reducible refine ew_str ?_)
local macro_rules | `(tactic| walk_at "kev") => `(tactic| first
  | ((with_reducible apply ew_var); (case h => rfl)))
local macro_rules | `(tactic| walk_at "kex") => `(tactic| first
  | ((with_reducible apply ew_callB); (case hi => rfl))
  | ((with_reducible apply ew_callWB); (case hi => rfl))
  | with_reducible refine ew_tup2 ?_
  | with_reducible refine ew_tup3 ?_
  | with_reducible refine ew_tup ?_
  | with_reducible refine ew_lst0 ?_
  | with_reducible refine ew_lst1 ?_
  | with_reducible refine ew_lst2 ?_
  | with_reducible refine ew_lst3 ?_
  | with_reducible refine ew_lst ?_
  | with_reducible refine ew_neg ?_
  | with_reducible refine ew_if ?_
  | with_reducible refine ew_cP ?_
  | with_reducible refine ew_c0 ?_
  | with_reducible refine ew_slL ?_
  | with_reducible refine ew_slA ?_
  | with_reducible refine ew_lc ?_
  | with_reducible refine ew_callNW ?_
  | with_reducible refine ew_callN ?_
  | with_reducible refine ew_callN0 ?_)
local macro_rules | `(tactic| walk_at "kew") => `(tactic| first
  | ((with_reducible show EW _ _ _ (tVar _) _ _ _); walk_at "kev")
  | ((with_reducible show EW _ _ _ (tOp _ _ _) _ _ _); walk_at "keo")
  | ((with_reducible show EW _ _ _ (tC _) _ _ _); walk_at "kec")
  | ((with_reducible show EW _ _ _ (tCB _ _) _ _ _); walk_at "keb")
  | walk_at "kex")
local macro_rules | `(tactic| walk_at "ksw") => `(tactic| first
  | ((with_reducible apply sw_app); (case hi => rfl); (case hl => walk_at "sd"))
  | ((with_reducible apply sw_clear); (case hi => rfl))
  | with_reducible refine sw_next ?_
  | with_reducible refine sw_if ?_
  | with_reducible refine sw_ret ?_
  | with_reducible refine sw_for ?_
  | with_reducible refine sw_asg ?_
  | ((with_reducible apply sw_dset); (case hi => rfl))
  | ((with_reducible apply sw_setI); (case hi => rfl))
  | with_reducible refine sw_asgT ?_)
local macro_rules | `(tactic| walk_at "ktw") => `(tactic| first
  | with_reducible refine tw_test ?_
  | with_reducible refine tw_B ?_
  | with_reducible refine tw_yes ?_
  | with_reducible refine tw_not ?_
  | with_reducible refine tw_and ?_
  | with_reducible refine tw_or ?_)
local macro_rules | `(tactic| walk_at "kaw") => `(tactic| first
  | with_reducible refine aw_nil ?_
  | with_reducible refine aw_cons ?_)
local macro_rules | `(tactic| walk_at "kiw") => `(tactic| first
  | with_reducible refine iw_list ?_
  | with_reducible refine iw_rng1 ?_)
local macro_rules | `(tactic| walk_at "kow") => `(tactic| first
  | with_reducible refine ow_none ?_
  | with_reducible refine ow_some ?_)
local macro_rules | `(tactic| walk_at "km") => `(tactic| first
  | ((with_reducible apply x_all); (case h => exact allB_map))
  | ((with_reducible apply x_any); (case h => exact anyB_map))
  | ((with_reducible apply x_sum); (case h => exact sumI_map))
  | ((with_reducible apply cw_elt); (case hm => walk_at "sd"))
  | ((with_reducible apply x1_rng); (case hb => walk_at "sd"))
  | ((with_reducible apply x2_rng); (case hb => walk_at "sd"); (case hc => walk_at "sd"))
  | ((with_reducible apply at0); (case h => rfl))
  | ((with_reducible apply at1); (case h => rfl))
  | ((with_reducible apply xi_it); (case h => rfl))
  | ((with_reducible apply x1_it); (case h => rfl))
  | with_reducible refine sq_nx ?_
  | with_reducible refine sq_rt ?_
  | with_reducible refine lp_nx ?_
  | with_reducible refine lp_rt ?_
  | with_reducible refine gsc_nil ?_
  | with_reducible refine gsc_cons ?_
  | with_reducible refine xi_int ?_
  | with_reducible refine xi_bool ?_
  | with_reducible refine xi_str ?_
  | with_reducible refine xi_tup ?_
  | with_reducible refine xi_list ?_
  | with_reducible refine sc_int ?_
  | with_reducible refine sc_str ?_
  | with_reducible refine x_ol ?_
  | with_reducible refine x_nx ?_
  | with_reducible refine gw_name ?_
  | ((with_reducible refine gc_name ?wa ?_); (case wa => simp))
  | ((with_reducible refine gc_tup ?wa ?_); (case wa => rfl))
  | ((with_reducible refine gw_tup ?wa ?_); (case wa => rfl))
  | with_reducible refine cnd_t ?_
  | with_reducible refine cnd_f ?_
  | with_reducible refine cnd_nt ?_
  | with_reducible refine cnd_nf ?_
  | walk_at "ca"
  | ((with_reducible apply zip_f); (case hx => rfl); (case hy => rfl))
  | ((with_reducible apply zip_t); (case hx => rfl); (case hy => rfl); (case hl => walk_at "sd"))
  | refine gsw_cons ?_
  | refine gsc_cons ?_
  | refine gsw_nil ?_
  | refine gsc_nil ?_
  | with_reducible exact trivial)
local macro_rules | `(tactic| walk_at "s1") => `(tactic| first
  | ((with_reducible show EW _ _ _ _ _ _ _); walk_at "kew")
  | ((with_reducible show SW _ _ _ _ _ _); walk_at "ksw")
  | ((with_reducible show TW _ _ _ _ _ _ _); walk_at "ktw")
  | ((with_reducible show AW _ _ _ _ _ _ _); walk_at "kaw")
  | ((with_reducible show IW _ _ _ _ _ _ _); walk_at "kiw")
  | ((with_reducible show OW _ _ _ _ _ _ _); walk_at "kow")
  | walk_at "km")
local macro_rules | `(tactic| walk_at "w1") => `(tactic| first | ((with_reducible show SW _ _ _ _ _ _); first | walk_at "ksw" | with_reducible refine sw_seqA ?_ | with_reducible refine sw_seqD ?_ | with_reducible refine sw_seqF ?_ | with_reducible refine sw_seqP ?_ | with_reducible refine sw_seqG ?_ | with_reducible refine sw_seqW ?_) | walk_at "s1")
local macro_rules | `(tactic| walk_at "s") => `(tactic| repeat walk_at "s1")
local macro_rules | `(tactic| walk_at "ef") => `(tactic| first
  | with_reducible refine ef_lst0 ?_
  | with_reducible refine ef_lst1 ?_
  | with_reducible refine ef_lst2 ?_
  | with_reducible refine ef_lst3 ?_
  | with_reducible refine ef_lst ?_
  | with_reducible refine ef_lc ?_
  | with_reducible refine ef_list ?_
  | with_reducible refine ef_slL ?_
  | with_reducible refine ef_catL ?_)
local macro_rules | `(tactic| walk_at "wi") => `(tactic| repeat (first | walk_at "w1" | with_reducible refine sw_seq ?_))
local macro_rules | `(tactic| walk_at "w") => `(tactic| repeat walk_at "w1")
section
/-! Trees: their form, parts, rows. -/
open PySem PyProof.Rows L2 Evl

inductive Tr where
  | nm (s : Str)
  | tm (n : Int) (t : Tr)
  | tn (t : Tr)
  | cy (m : List (List Fr)) (t : Tr)
  | pr (w : Str) (t u : Tr)
namespace Tr
noncomputable def enc : Tr → PyData
  | nm s => .tuple [.str "name", .str s]
  | tm n t => .tuple [.str "times", .int n, enc t]
  | tn t => .tuple [.str "turn", enc t]
  | cy m t => .tuple [.str "carry", mp m, enc t]
  | pr w t u => .tuple [.str w, enc t, enc u]
noncomputable def kids : Tr → List Tr
  | nm _ => []
  | tm _ t => [t]
  | tn t => [t]
  | cy _ t => [t]
  | pr _ t u => [t, u]
noncomputable def parts : Tr → List Tr
  | nm s => [nm s]
  | tm n t => parts t ++ [tm n t]
  | tn t => parts t ++ [tn t]
  | cy m t => parts t ++ [cy m t]
  | pr w t u => parts t ++ parts u ++ [pr w t u]
noncomputable def depth : Tr → Nat
  | nm _ => 0
  | tm _ t => depth t + 1
  | tn t => depth t + 1
  | cy _ t => depth t + 1
  | pr _ t u => max (depth t) (depth u) + 1
/-- the words of two trees -/
noncomputable def pairs : List Str := ["add", "take", "meet", "least", "most", "lay"]
noncomputable def rowD : Tr → PyData
  | nm s => .tuple [.str "name", .str s]
  | tm n _ => .tuple [.str "times", .int n]
  | tn _ => .tuple [.str "turn"]
  | cy m _ => .tuple [.str "carry", mp m]
  | pr w _ _ => .tuple [.str w]
/-- its words and maps are such -/
noncomputable def Wf : Tr → Prop
  | nm _ => True
  | tm _ t => Wf t
  | tn t => Wf t
  | cy m t => (∃ gl st, Mp 10 gl st m ∧ 0 < gl ∧ gl ≤ 2 ∧ 0 < st ∧ st ≤ 2) ∧ Wf t
  | pr w t u => w ∈ pairs ∧ Wf t ∧ Wf u
theorem Wf.kid {t k : Tr} (h : Wf t) (m : k ∈ t.kids) : Wf k := qt_of (by simp (disch := with_unfolding_all
  cases t with
  | nm s => cases m
  | tm n t => rw [List.mem_singleton.mp m]; exact h
  | tn t => rw [List.mem_singleton.mp m]; exact h
  | cy n t => rw [List.mem_singleton.mp m]; exact h.2
  | pr w t u =>
    rcases List.mem_cons.mp m with rfl | m
    · exact h.2.1
    · rw [List.mem_singleton.mp m]; exact h.2.2
  ) only [↓qt_eq])
theorem kid_depth {t k : Tr} (m : k ∈ t.kids) : k.depth < t.depth := qt_of (by simp (disch := with_unfolding_all
  cases t with
  | nm s => cases m
  | tm n t => rw [List.mem_singleton.mp m]; exact Nat.lt_succ_self _
  | tn t => rw [List.mem_singleton.mp m]; exact Nat.lt_succ_self _
  | cy n t => rw [List.mem_singleton.mp m]; exact Nat.lt_succ_self _
  | pr w t u =>
    rcases List.mem_cons.mp m with rfl | m
    · show _ < max _ _ + 1; omega
    · rw [List.mem_singleton.mp m]; show _ < max _ _ + 1; omega
  ) only [↓qt_eq])
theorem parts_eq (t : Tr) : t.parts = t.kids.flatMap parts ++ [t] := by cases t <;> simp [parts, kids]
theorem parts_len : ∀ t : Tr, t.parts.length + 1 ≤ 2 ^ (t.depth + 1)
  | nm s => by show 1 + 1 ≤ 2; omega
  | tm n t => by have := parts_len t; show (parts t ++ [_]).length + 1 ≤ 2 ^ (depth t + 1 + 1); rw [List.length_append, List.length_singleton, Nat.pow_succ]; have : 2 ≤ 2 ^ (depth t + 1) := by rw [Nat.pow_succ]; have := Nat.one_le_two_pow (n := depth t); omega
                 omega
  | tn t => by have := parts_len t; show (parts t ++ [_]).length + 1 ≤ 2 ^ (depth t + 1 + 1); rw [List.length_append, List.length_singleton, Nat.pow_succ]; have : 2 ≤ 2 ^ (depth t + 1) := by rw [Nat.pow_succ]; have := Nat.one_le_two_pow (n := depth t); omega
               omega
  | cy m t => by have := parts_len t; show (parts t ++ [_]).length + 1 ≤ 2 ^ (depth t + 1 + 1); rw [List.length_append, List.length_singleton, Nat.pow_succ]; have : 2 ≤ 2 ^ (depth t + 1) := by rw [Nat.pow_succ]; have := Nat.one_le_two_pow (n := depth t); omega
                 omega
  | pr w t u => by
    have h1 := parts_len t
    have h2 := parts_len u
    have m1 : 2 ^ (depth t + 1) ≤ 2 ^ (max (depth t) (depth u) + 1) := Nat.pow_le_pow_right (by decide) (by omega)
    have m2 : 2 ^ (depth u + 1) ≤ 2 ^ (max (depth t) (depth u) + 1) := Nat.pow_le_pow_right (by decide) (by omega)
    show (parts t ++ parts u ++ [_]).length + 1 ≤ 2 ^ (max (depth t) (depth u) + 1 + 1)
    rw [List.length_append, List.length_append, List.length_singleton, Nat.pow_succ]
    omega
theorem parts_mem {t k : Tr} : k ∈ t.parts → Wf t → Wf k := qt_of (by simp (disch := with_unfolding_all
  induction t with
  | nm s => intro m h; rw [List.mem_singleton.mp m]; exact h
  | tm n t ih => intro m h; rcases List.mem_append.mp m with m | m; exact ih m h; rw [List.mem_singleton.mp m]; exact h
  | tn t ih => intro m h; rcases List.mem_append.mp m with m | m; exact ih m h; rw [List.mem_singleton.mp m]; exact h
  | cy n t ih => intro m h; rcases List.mem_append.mp m with m | m; exact ih m h.2; rw [List.mem_singleton.mp m]; exact h
  | pr w t u ih1 ih2 =>
    intro m h
    rcases List.mem_append.mp m with m | m
    · rcases List.mem_append.mp m with m | m
      · exact ih1 m h.2.1
      · exact ih2 m h.2.2
    · rw [List.mem_singleton.mp m]; exact h
  ) only [↓qt_eq])
noncomputable def word : Tr → Str
  | nm _ => "name"
  | tm _ _ => "times"
  | tn _ => "turn"
  | cy _ _ => "carry"
  | pr w _ _ => w
noncomputable def rest : Tr → List PyData
  | nm s => [.str s]
  | tm n t => [.int n, enc t]
  | tn t => [enc t]
  | cy m t => [mp m, enc t]
  | pr _ t u => [enc t, enc u]
theorem enc_eq (t : Tr) : t.enc = .tuple (.str t.word :: t.rest) := by cases t <;> rfl
theorem rest_len (t : Tr) : t.rest.length ≤ 2 := by cases t <;> first | exact Nat.le_refl 2 | exact Nat.le_succ 1
theorem pairs_ne {w : Str} (h : w ∈ pairs) : w ≠ "name" ∧ w ≠ "times" ∧ w ≠ "carry" ∧ w ≠ "turn" := by
  simp only [pairs, List.mem_cons, List.not_mem_nil, or_false] at h
  rcases h with rfl | rfl | rfl | rfl | rfl | rfl <;> exact ⟨by decide, by decide, by decide, by decide⟩
theorem at_name {t : Tr} (h : t.Wf) (e : t.word = "name") : ∃ s, t = nm s := qt_of (by simp (disch := with_unfolding_all
  cases t with
  | nm s => exact ⟨s, rfl⟩
  | pr w t u => exact absurd e (pairs_ne h.1).1
  | tm n t => exact absurd (show ("times" : Str) = "name" from e) (by decide)
  | tn t => exact absurd (show ("turn" : Str) = "name" from e) (by decide)
  | cy m t => exact absurd (show ("carry" : Str) = "name" from e) (by decide)
  ) only [↓qt_eq])
theorem at_two {t : Tr} (h : t.Wf) (e : t.word = "times" ∨ t.word = "carry") : t.kids.map enc = t.rest.drop 1 ∧ t.rowD = .tuple [.str t.word, t.rest.head?.getD .none] ∧ t.rest.length = 2 := qt_of (by simp (disch := with_unfolding_all
  cases t with
  | tm n t => exact ⟨rfl, rfl, rfl⟩
  | cy m t => exact ⟨rfl, rfl, rfl⟩
  | pr w t u => exact absurd e (by have := pairs_ne h.1; exact fun z => z.elim this.2.1 this.2.2.1)
  | nm s => exact absurd (show ("name" : Str) = "times" ∨ ("name" : Str) = "carry" from e) (by decide)
  | tn t => exact absurd (show ("turn" : Str) = "times" ∨ ("turn" : Str) = "carry" from e) (by decide)
  ) only [↓qt_eq])
theorem at_rest {t : Tr} (h : t.Wf) (e1 : t.word ≠ "name") (e2 : ¬ (t.word = "times" ∨ t.word = "carry")) : t.kids.map enc = t.rest ∧ t.rowD = .tuple [.str t.word] := by
  cases t with
  | tn t => exact ⟨rfl, rfl⟩
  | pr w t u => exact ⟨rfl, rfl⟩
  | nm s => exact absurd rfl e1
  | tm n t => exact absurd (.inl rfl) e2
  | cy m t => exact absurd (.inr rfl) e2
end Tr
theorem eqv_strD (i j : Str) : PyData.eqv (.str i) (.str j) = decide (i = j) := by
  unfold PyData.eqv
  by_cases h : i = j
  · simp [h]
  · simp [h]
theorem Tr.word_sh {t : Tr} (h : t.Wf) : SeqAt.shaped (.str t.word) = true := qt_of (by simp (disch := with_unfolding_all
  cases t with
  | pr w t u =>
    have h1 : w ∈ pairs := h.1
    simp only [pairs, List.mem_cons, List.not_mem_nil, or_false] at h1
    show SeqAt.shaped (.str w) = true
    rcases h1 with rfl | rfl | rfl | rfl | rfl | rfl <;> decide +kernel
  | nm s => show SeqAt.shaped (.str "name") = true; decide +kernel
  | tm n t => show SeqAt.shaped (.str "times") = true; decide +kernel
  | tn t => show SeqAt.shaped (.str "turn") = true; decide +kernel
  | cy m t => show SeqAt.shaped (.str "carry") = true; decide +kernel
  ) only [↓qt_eq])
theorem in2 {w a b : Str} {P Q : Prop} (hs : SeqAt.shaped (.str w) = true) (hl : SeqAt.shaped (.list [.str a, .str b]) = true) (h1 : (w = a ∨ w = b) → P) (h2 : ¬ (w = a ∨ w = b) → Q) : SeqAt.shaped (.str w) = true ∧ SeqAt.shaped (.list [.str a, .str b]) = true ∧ ∃ c, PyData.bool (if false = true then !([PyData.str a, .str b].any fun z => PyData.eqv z (.str w)) else [PyData.str a, .str b].any fun z => PyData.eqv z (.str w)) = .bool c ∧ Cnd c P Q := qt_of (by simp (disch := with_unfolding_all
  refine ⟨hs, hl, _, rfl, ?_⟩
  rw [if_neg (by decide)]
  simp only [List.any_cons, List.any_nil, eqv_strD, Bool.or_false]
  by_cases e1 : w = a
  · rw [decide_eq_true e1.symm]; exact cnd_t (h1 (.inl e1))
  · rw [decide_eq_false (fun z => e1 z.symm), Bool.false_or]
    by_cases e2 : w = b
    · rw [decide_eq_true e2.symm]; exact cnd_t (h1 (.inr e2))
    · rw [decide_eq_false (fun z => e2 z.symm)]; exact cnd_f (h2 fun z => z.elim e1 e2)
  ) only [↓qt_eq])
theorem in3 {w a b c : Str} {P Q : Prop} (hs : SeqAt.shaped (.str w) = true) (hl : SeqAt.shaped (.list [.str a, .str b, .str c]) = true) (h1 : (w = a ∨ w = b ∨ w = c) → P) (h2 : ¬ (w = a ∨ w = b ∨ w = c) → Q) : SeqAt.shaped (.str w) = true ∧ SeqAt.shaped (.list [.str a, .str b, .str c]) = true ∧ ∃ d, PyData.bool (if false = true then !([PyData.str a, .str b, .str c].any fun z => PyData.eqv z (.str w)) else [PyData.str a, .str b, .str c].any fun z => PyData.eqv z (.str w)) = .bool d ∧ Cnd d P Q := qt_of (by simp (disch := with_unfolding_all
  refine ⟨hs, hl, _, rfl, ?_⟩
  rw [if_neg (by decide)]
  simp only [List.any_cons, List.any_nil, eqv_strD, Bool.or_false]
  by_cases e1 : w = a
  · rw [decide_eq_true e1.symm]; exact cnd_t (h1 (.inl e1))
  · rw [decide_eq_false (fun z => e1 z.symm), Bool.false_or]
    by_cases e2 : w = b
    · rw [decide_eq_true e2.symm]; exact cnd_t (h1 (.inr (.inl e2)))
    · rw [decide_eq_false (fun z => e2 z.symm), Bool.false_or]
      by_cases e3 : w = c
      · rw [decide_eq_true e3.symm]; exact cnd_t (h1 (.inr (.inr e3)))
      · rw [decide_eq_false (fun z => e3 z.symm)]; exact cnd_f (h2 fun z => z.elim e1 fun z => z.elim e2 e3)
  ) only [↓qt_eq])
section
variable {K : Fg} {cs : Cs} {gs : Gs} {φ : PyData → Prop} {A : Rs → Prop} {ε : Xw → Prop} {w : World}
noncomputable def P_inner : Pr := fun ds A => ∃ t : Tr, ds = [t.enc] ∧ t.Wf ∧ A (.ok (.list (t.kids.map Tr.enc)))
noncomputable def t_inner_of (K : Fg) : TS := (tSeq (tAsg (tVar 0) (gStarE K (gCons (gName 1) (gCons (gName 2) gNil))))
  (tSeq (tIfS (tTest (tOp rEq (tVar 1) (tC (V.str "name")))) (tRet (tLst tNil)) tNext)
  (tRet (tIf (tTest (tOp (rInS K false) (tVar 1) (tTup (tCons (tC (V.str "times")) (tCons (tC (V.str "carry")) tNil))))) (tSl (rSlL K) (tVar 2) (tPart (tC (V.int 1))) tNoPart) (tVar 2)))))
-- slots of inner_of: 0 tree, 1 word, 2 rest
theorem ln_inner_of : ∀ ds A, P_inner ds A → ds.length = 1 := fun ds A h => by obtain ⟨t, rfl, _⟩ := h; rfl
theorem rd_inner_of {ds A} (h : P_inner ds A) : SW K cs W0 (t_inner_of K) (frame 3 ds) (rts0 A) := qt_of (by simp (disch := with_unfolding_all
  obtain ⟨t, rfl, hw, h⟩ := h
  unfold t_inner_of
  rw [t.enc_eq]
  walk_at "w"
  refine gw_starE rfl (by have := t.rest_len; omega) ?_
  walk_at "wi"
  refine cnd_d (fun e => ?_) fun e => ?_
  · obtain ⟨s, rfl⟩ := Tr.at_name hw e
    walk_at "w"
    exact h
  · walk_at "w"
    refine in2 (Tr.word_sh hw) (by decide +kernel) (fun e2 => ?_) fun e2 => ?_
    · walk_at "w"
      rw [(Tr.at_two hw e2).1] at h
      rw [show (1 : Int) = ((1 : Nat) : Int) from rfl, cutD_from]
      exact h
    · walk_at "w"
      rw [(Tr.at_rest hw e e2).1] at h
      exact h
  ) only [↓qt_eq])
theorem c_inner {t : Tr} (hw : t.Wf) (h : φ (.list (t.kids.map Tr.enc))) : P_inner [t.enc] (rE φ ε) := ⟨t, rfl, hw, h⟩
noncomputable def P_rowOf : Pr := fun ds A => ∃ t : Tr, ds = [t.enc] ∧ t.Wf ∧ A (.ok t.rowD)
noncomputable def t_row_of (K : Fg) : TS := (tRet (tIf (tTest (tOp (rInS K false) (tOp (rIx K) (tVar 0) (tC (V.int 0))) (tTup (tCons (tC (V.str "name")) (tCons (tC (V.str "times")) (tCons (tC (V.str "carry")) tNil)))))) (tSl (rSlA K) (tVar 0) tNoPart (tPart (tC (V.int 2)))) (tSl (rSlA K) (tVar 0) tNoPart (tPart (tC (V.int 1))))))
-- slots of row_of: 0 tree
theorem ln_row_of : ∀ ds A, P_rowOf ds A → ds.length = 1 := fun ds A h => by obtain ⟨t, rfl, _⟩ := h; rfl
theorem rd_row_of {ds A} (h : P_rowOf ds A) : SW K cs W0 (t_row_of K) (frame 1 ds) (rts0 A) := qt_of (by simp (disch := with_unfolding_all
  obtain ⟨t, rfl, hw, h⟩ := h
  unfold t_row_of
  rw [t.enc_eq]
  walk_at "w"
  refine in3 (Tr.word_sh hw) (by decide +kernel) (fun e => ?_) fun e => ?_
  · walk_at "w"
    rw [show (2 : Int) = ((2 : Nat) : Int) from rfl, cutD_to]
    rcases e with e | e
    · obtain ⟨s, rfl⟩ := Tr.at_name hw e
      exact h
    · obtain ⟨_, q, l⟩ := Tr.at_two hw e
      rw [q] at h
      match hr : t.rest, l with
      | [a, b], _ => rw [hr] at h; exact h
  · walk_at "w"
    rw [show (1 : Int) = ((1 : Nat) : Int) from rfl, cutD_to]
    rw [(Tr.at_rest hw (fun z => e (.inl z)) (fun z => e (.inr z))).2] at h
    exact h
  ) only [↓qt_eq])
theorem c_rowOf {t : Tr} (hw : t.Wf) (h : φ t.rowD) : P_rowOf [t.enc] (rE φ ε) := ⟨t, rfl, hw, h⟩
/-! the parts, in the order of their ends -/
noncomputable def P_parts : Nat → Pr
  | 0 => fun _ _ => False
  | n + 1 => fun ds A => ∃ t : Tr, ds = [t.enc] ∧ t.Wf ∧ t.depth ≤ n ∧ n ≤ 11 ∧ A (.ok (.list (t.parts.map Tr.enc)))
noncomputable def t_parts_of (K : Fg) (n : Nat) : TS := (tSeq (tAsg (tLst tNil) (gName 1))
  (tSeq (tFor (iList K (tCall (spW0 K P_inner) [] E0 (tCons (tVar 0) tNil))) (gName 2) (tAug 1 (tCall (spW0 K (P_parts n)) [] E0 (tCons (tVar 2) tNil)) (rIcat K)))
  (tRet (tOp (rCatL K) (tVar 1) (tLst (tCons (tVar 0) tNil))))))
-- slots of parts_of: 0 tree, 1 found, 2 inner
theorem ln_parts_of {n : Nat} : ∀ ds A, P_parts (n + 1) ds A → ds.length = 1 := fun ds A h => by obtain ⟨t, rfl, _⟩ := h; rfl
theorem tree_room {t : Tr} {n : Nat} (h : t.depth ≤ n) (hn : n ≤ 11) : t.parts.length ≤ 5000 := by
  have h1 := t.parts_len
  have h2 : 2 ^ (t.depth + 1) ≤ 2 ^ 12 := Nat.pow_le_pow_right (by decide) (by omega)
  have h3 : (2 : Nat) ^ 12 = 4096 := by decide
  omega
theorem rd_parts_of {n : Nat} {ds A} (h : P_parts (n + 1) ds A) : SW K cs W0 (t_parts_of K n) (frame 3 ds) (rts0 A) := qt_of (by simp (disch := with_unfolding_all
  obtain ⟨t, rfl, hw, hd, hn, h⟩ := h
  unfold t_parts_of
  refine sw_seq (sw_asgF (ef_lst0 ?_))
  walk_at "s"
  refine sw_seq ?_
  walk_at "s"
  refine c_inner hw ?_
  refine ⟨_, rfl, ?_⟩
  have hb := tree_room hd hn
  have hp := t.parts_eq
  refine forP (f := Tr.enc) (fun pre G => ∃ x, G = [.d t.enc, .ow (ol ((pre.flatMap Tr.parts).map Tr.enc)), x]) ⟨_, rfl⟩ ?_ ?_
  · rintro pre k post _ e ⟨x, rfl⟩
    refine gw_name ?_
    have km : k ∈ t.kids := by rw [e]; simp
    have kd := Tr.kid_depth km
    refine sw_augL (i := 1) rfl ?_
    walk_at "s"
    obtain ⟨m, rfl⟩ : ∃ m, n = m + 1 := ⟨n - 1, by omega⟩
    refine ⟨k, rfl, hw.kid km, by omega, by omega, _, rfl, ?_, ?_⟩
    · have hl : (pre ++ k :: post).flatMap Tr.parts = pre.flatMap Tr.parts ++ (k.parts ++ post.flatMap Tr.parts) := by rw [List.flatMap_append, List.flatMap_cons]
      have h2 := congrArg List.length hp
      rw [e, hl, List.length_append, List.length_append, List.length_append] at h2
      rw [List.length_map, List.length_map]
      omega
    · refine ⟨.d k.enc, ?_⟩
      rw [List.flatMap_append, List.map_append]
      simp only [List.flatMap_cons, List.flatMap_nil, List.append_nil]
      rfl
  · rintro _ ⟨x, rfl⟩
    have h2 := congrArg List.length hp
    rw [List.length_append] at h2
    have h2 : t.parts.length = (t.kids.flatMap Tr.parts).length + 1 := h2
    refine sw_freeze (i := 1) rfl ?_
    walk_at "s"
    refine ⟨by rw [List.length_map]; show (t.kids.flatMap Tr.parts).length + 1 ≤ 16000000; omega, ?_⟩
    rw [hp, List.map_append] at h
    exact h
  ) only [↓qt_eq])
theorem c_parts {n : Nat} {t : Tr} (hw : t.Wf) (hd : t.depth ≤ n) (hn : n ≤ 11) (h : φ (.list (t.parts.map Tr.enc))) : P_parts (n + 1) [t.enc] (rE φ ε) := ⟨t, rfl, hw, hd, hn, h⟩
/-! rows -/
noncomputable def P_rowsOf : Pr := fun ds A => ∃ t : Tr, ds = [t.enc] ∧ t.Wf ∧ t.depth ≤ 11 ∧ A (.ok (.list (t.parts.map Tr.rowD)))
noncomputable def t_rows_of (K : Fg) : TS := (tRet (tLc (iList K (tCall (spW0 K (P_parts 12)) [] E0 (tCons (tVar 0) tNil))) (gName 1) tYes (tCall (spW0 K P_rowOf) [] E0 (tCons (tVar 1) tNil)) [1]))
-- slots of rows_of: 0 tree, 1 one
theorem ln_rows_of : ∀ ds A, P_rowsOf ds A → ds.length = 1 := fun ds A h => by obtain ⟨t, rfl, _⟩ := h; rfl
theorem rd_rows_of {ds A} (h : P_rowsOf ds A) : SW K cs W0 (t_rows_of K) (frame 2 ds) (rts0 A) := qt_of (by simp (disch := with_unfolding_all
  obtain ⟨t, rfl, hw, hd, h⟩ := h
  unfold t_rows_of
  have hb := tree_room hd (Nat.le_refl _)
  walk_at "w"
  refine c_parts hw hd (Nat.le_refl _) ?_
  refine ⟨_, rfl, lcM Tr.rowD (by omega) (unk1 rfl) (fun k hk => ?_) ⟨_, rfl, h⟩⟩
  refine gc_name (by simp) ?_
  walk_at "w"
  exact c_rowOf (Tr.parts_mem hk hw) rfl
  ) only [↓qt_eq])
/-! the names, as they come first -/
noncomputable def Tr.nameOf : Tr → Option Str
  | .nm s => some s
  | _ => none
noncomputable def addN (acc : List Str) (s : Str) : List Str := if s ∈ acc then acc else acc ++ [s]
noncomputable def namesOf (ts : List Tr) : List Str := (ts.filterMap Tr.nameOf).foldl addN []
noncomputable def P_namesIn : Pr := fun ds A => ∃ t : Tr, ds = [t.enc] ∧ t.Wf ∧ t.depth ≤ 11 ∧ A (.fl (ol ((namesOf t.parts).map PyData.str)))
noncomputable def t_names_in (K : Fg) : TS := (tSeq (tAsg tDNewK (gName 1))
  (tSeq (tFor (iList K (tCall (spW0 K (P_parts 12)) [] E0 (tCons (tVar 0) tNil))) (gName 2) (tIfS (tTest (tOp rEq (tOp (rIx K) (tVar 2) (tC (V.int 0))) (tC (V.str "name")))) (sDPut (tVar 1) (tOp (rIx K) (tVar 2) (tC (V.int 1))) (tC (V.bl true))) tNext))
  (tRet (tCB L2.rListD (tCons (tVar 1) tNil)))))
-- slots of names_in: 0 tree, 1 found, 2 one
theorem ln_names_in : ∀ ds A, P_namesIn ds A → ds.length = 1 := fun ds A h => by obtain ⟨t, rfl, _⟩ := h; rfl
theorem namesOf_snoc {pre : List Tr} {k : Tr} : namesOf (pre ++ [k]) = match k.nameOf with | some s => addN (namesOf pre) s | none => namesOf pre := by
  unfold namesOf
  rw [List.filterMap_append, List.foldl_append]
  cases k <;> rfl
noncomputable def nmD (acc : List Str) : Sd := acc.map fun s => (s, .bool true)
theorem look_nm {acc : List Str} {s : Str} : (lookS (nmD acc) s).isSome = decide (s ∈ acc) := qt_of (by simp (disch := with_unfolding_all
  induction acc with
  | nil => rfl
  | cons x acc ih =>
    show (lookS ((x, PyData.bool true) :: nmD acc) s).isSome = _
    rw [lookS_cons]
    by_cases e : x = s
    · rw [if_pos e]; simp [e]
    · rw [if_neg e, ih]
      have : s ≠ x := fun z => e z.symm
      simp [this]
  ) only [↓qt_eq])
theorem put_nm {acc : List Str} {s : Str} : putS (nmD acc) s (.bool true) = nmD (addN acc s) := qt_of (by simp (disch := with_unfolding_all
  unfold putS addN
  rw [look_nm]
  by_cases e : s ∈ acc
  · rw [if_pos (by simpa using e), if_pos e]
    unfold nmD
    rw [List.map_map]
    refine List.map_congr_left fun x _ => ?_
    show (if x = s then (x, PyData.bool true) else (x, PyData.bool true)) = _
    split <;> rfl
  · rw [if_neg (by simpa using e), if_neg e]
    unfold nmD
    rw [List.map_append]; rfl
  ) only [↓qt_eq])
theorem names_len (pre : List Tr) : (namesOf pre).length ≤ pre.length := qt_of (by simp (disch := with_unfolding_all
  have key : ∀ (l acc : List Str), (l.foldl addN acc).length ≤ acc.length + l.length := fun l => by
    induction l with
    | nil => intro acc; exact Nat.le_refl _
    | cons x l ih =>
      intro acc
      have := ih (addN acc x)
      have h2 : (addN acc x).length ≤ acc.length + 1 := by unfold addN; split; omega; rw [List.length_append]; exact Nat.le_refl _
      show (l.foldl addN (addN acc x)).length ≤ _
      rw [List.length_cons]; omega
  have h1 := key (pre.filterMap Tr.nameOf) []
  have h2 : (pre.filterMap Tr.nameOf).length ≤ pre.length := List.length_filterMap_le ..
  unfold namesOf
  simp at h1
  omega
  ) only [↓qt_eq])
theorem rd_names_in {ds A} (h : P_namesIn ds A) : SW K cs W0 (t_names_in K) (frame 3 ds) (rts0 A) := qt_of (by simp (disch := with_unfolding_all
  obtain ⟨t, rfl, hw, hd, h⟩ := h
  unfold t_names_in
  have hb := tree_room hd (Nat.le_refl _)
  refine sw_seq (sw_asgF (ef_sd0 ?_))
  walk_at "s"
  refine sw_seq ?_
  walk_at "s"
  refine c_parts hw hd (Nat.le_refl _) ?_
  refine ⟨_, rfl, ?_⟩
  refine forP (f := Tr.enc) (fun pre G => ∃ x, G = [.d t.enc, .ow (sd (nmD (namesOf pre))), x]) ⟨_, rfl⟩ ?_ ?_
  · rintro pre k post _ e ⟨x, rfl⟩
    refine gw_name ?_
    have kw : k.Wf := Tr.parts_mem (show k ∈ t.parts by rw [e]; simp) hw
    have hl := names_len pre
    have hl2 : pre.length ≤ 5000 := by have := congrArg List.length e; simp at this; omega
    rw [k.enc_eq]
    walk_at "s"
    refine cnd_d (fun e2 => ?_) fun e2 => ?_
    · obtain ⟨s, rfl⟩ := Tr.at_name kw e2
      refine sw_sdPut (i := 1) rfl (by unfold nmD; rw [List.length_map]; omega) ?_
      walk_at "s"
      refine ⟨.d (Tr.nm s).enc, ?_⟩
      rw [put_nm, namesOf_snoc]
      rfl
    · walk_at "s"
      refine ⟨.d k.enc, ?_⟩
      rw [namesOf_snoc, k.enc_eq]
      cases k with
      | nm s => exact absurd rfl e2
      | _ => rfl
  · rintro _ ⟨x, rfl⟩
    refine sw_retF (ef_sdList (.inl rfl) ?_)
    unfold nmD
    rw [List.map_map]
    exact h
  ) only [↓qt_eq])
theorem c_namesIn {t : Tr} {χ : Own → Prop} (hw : t.Wf) (hd : t.depth ≤ 11) (h : φ (.list ((namesOf t.parts).map PyData.str))) : P_namesIn [t.enc] (rE φ ε) := ⟨t, rfl, hw, hd, _, rfl, h⟩
theorem c_rowsOf {t : Tr} (hw : t.Wf) (hd : t.depth ≤ 11) (h : φ (.list (t.parts.map Tr.rowD))) : P_rowsOf [t.enc] (rE φ ε) := ⟨t, rfl, hw, hd, h⟩
/-! the law's own -/
noncomputable def P_linner : Pr := fun ds A => ∃ t : Tr, ds = [t.enc] ∧ t.Wf ∧ A (.ok (.list (t.kids.map Tr.enc)))
noncomputable def t__law_inner (K : Fg) : TS := (tSeq (tIfS (tTest (tOp rEq (tOp (rIx K) (tVar 0) (tC (V.int 0))) (tC (V.str "name")))) (tRet (tLst tNil)) tNext)
  (tRet (tIf (tTest (tOp (rInS K false) (tOp (rIx K) (tVar 0) (tC (V.int 0))) (tLst (tCons (tC (V.str "times")) (tCons (tC (V.str "carry")) tNil))))) (tCB (rListQ K) (tCons (tSl (rSlA K) (tVar 0) (tPart (tC (V.int 2))) tNoPart) tNil)) (tCB (rListQ K) (tCons (tSl (rSlA K) (tVar 0) (tPart (tC (V.int 1))) tNoPart) tNil)))))
-- slots of _law_inner: 0 _law_tree_here
theorem ln__law_inner : ∀ ds A, P_linner ds A → ds.length = 1 := fun ds A h => by obtain ⟨t, rfl, _⟩ := h; rfl
theorem rd__law_inner {ds A} (h : P_linner ds A) : SW K cs W0 (t__law_inner K) (frame 1 ds) (rts0 A) := qt_of (by simp (disch := with_unfolding_all
  obtain ⟨t, rfl, hw, h⟩ := h
  unfold t__law_inner
  rw [t.enc_eq]
  walk_at "wi"
  refine cnd_d (fun e => ?_) fun e => ?_
  · obtain ⟨s, rfl⟩ := Tr.at_name hw e
    walk_at "w"
    exact h
  · walk_at "w"
    refine in2 (Tr.word_sh hw) (by decide +kernel) (fun e2 => ?_) fun e2 => ?_
    · walk_at "w"
      obtain ⟨q, _, l⟩ := Tr.at_two hw e2
      rw [q] at h
      rw [show (2 : Int) = ((2 : Nat) : Int) from rfl, cutD_from]
      exact h
    · walk_at "w"
      rw [(Tr.at_rest hw e e2).1] at h
      rw [show (1 : Int) = ((1 : Nat) : Int) from rfl, cutD_from]
      exact h
  ) only [↓qt_eq])
theorem c_linner {t : Tr} (hw : t.Wf) (h : φ (.list (t.kids.map Tr.enc))) : P_linner [t.enc] (rE φ ε) := ⟨t, rfl, hw, h⟩
noncomputable def P_lrow : Pr := fun ds A => ∃ t : Tr, ds = [t.enc] ∧ t.Wf ∧ A (.ok t.rowD)
noncomputable def t__law_row (K : Fg) : TS := (tSeq (tIfS (tTest (tOp rEq (tOp (rIx K) (tVar 0) (tC (V.int 0))) (tC (V.str "name")))) (tRet (tVar 0)) tNext)
  (tRet (tIf (tTest (tOp (rInS K false) (tOp (rIx K) (tVar 0) (tC (V.int 0))) (tLst (tCons (tC (V.str "times")) (tCons (tC (V.str "carry")) tNil))))) (tSl (rSlA K) (tVar 0) tNoPart (tPart (tC (V.int 2)))) (tSl (rSlA K) (tVar 0) tNoPart (tPart (tC (V.int 1)))))))
-- slots of _law_row: 0 _law_tree_here
theorem ln__law_row : ∀ ds A, P_lrow ds A → ds.length = 1 := fun ds A h => by obtain ⟨t, rfl, _⟩ := h; rfl
theorem rd__law_row {ds A} (h : P_lrow ds A) : SW K cs W0 (t__law_row K) (frame 1 ds) (rts0 A) := qt_of (by simp (disch := with_unfolding_all
  obtain ⟨t, rfl, hw, h⟩ := h
  unfold t__law_row
  rw [t.enc_eq]
  walk_at "wi"
  refine cnd_d (fun e => ?_) fun e => ?_
  · obtain ⟨s, rfl⟩ := Tr.at_name hw e
    walk_at "w"
    exact h
  · walk_at "w"
    refine in2 (Tr.word_sh hw) (by decide +kernel) (fun e2 => ?_) fun e2 => ?_
    · walk_at "w"
      rw [show (2 : Int) = ((2 : Nat) : Int) from rfl, cutD_to]
      obtain ⟨_, q, l⟩ := Tr.at_two hw e2
      rw [q] at h
      match hr : t.rest, l with
      | [a, b], _ => rw [hr] at h; exact h
    · walk_at "w"
      rw [show (1 : Int) = ((1 : Nat) : Int) from rfl, cutD_to]
      rw [(Tr.at_rest hw e e2).2] at h
      exact h
  ) only [↓qt_eq])
theorem c_lrow {t : Tr} (hw : t.Wf) (h : φ t.rowD) : P_lrow [t.enc] (rE φ ε) := ⟨t, rfl, hw, h⟩
noncomputable def P_lparts : Nat → Pr
  | 0 => fun _ _ => False
  | n + 1 => fun ds A => ∃ t : Tr, ds = [t.enc] ∧ t.Wf ∧ t.depth ≤ n ∧ n ≤ 11 ∧ A (.ok (.list (t.parts.map Tr.enc)))
noncomputable def t__law_parts (K : Fg) (n : Nat) : TS := (tSeq (tAsg (tLst tNil) (gName 1))
  (tSeq (tFor (iList K (tCall (spW0 K P_linner) [] E0 (tCons (tVar 0) tNil))) (gName 2) (tDrop (tBM K "list" (rExtQ K) (tVar 1) (tCons (tCall (spW0 K (P_lparts n)) [] E0 (tCons (tVar 2) tNil)) tNil))))
  (tRet (tOp (rCatL K) (tVar 1) (tLst (tCons (tVar 0) tNil))))))
-- slots of _law_parts: 0 _law_tree_here, 1 _law_found, 2 _law_inner_here
theorem ln__law_parts {n : Nat} : ∀ ds A, P_lparts (n + 1) ds A → ds.length = 1 := fun ds A h => by obtain ⟨t, rfl, _⟩ := h; rfl
theorem rd__law_parts {n : Nat} {ds A} (h : P_lparts (n + 1) ds A) : SW K cs W0 (t__law_parts K n) (frame 3 ds) (rts0 A) := qt_of (by simp (disch := with_unfolding_all
  obtain ⟨t, rfl, hw, hd, hn, h⟩ := h
  unfold t__law_parts
  refine sw_seq (sw_asgF (ef_lst0 ?_))
  walk_at "s"
  refine sw_seq ?_
  walk_at "s"
  refine c_linner hw ?_
  refine ⟨_, rfl, ?_⟩
  have hb := tree_room hd hn
  have hp := t.parts_eq
  refine forP (f := Tr.enc) (fun pre G => ∃ x, G = [.d t.enc, .ow (ol ((pre.flatMap Tr.parts).map Tr.enc)), x]) ⟨_, rfl⟩ ?_ ?_
  · rintro pre k post _ e ⟨x, rfl⟩
    refine gw_name ?_
    have km : k ∈ t.kids := by rw [e]; simp
    have kd := Tr.kid_depth km
    refine sw_extQ (i := 1) rfl ?_
    walk_at "s"
    obtain ⟨m, rfl⟩ : ∃ m, n = m + 1 := ⟨n - 1, by omega⟩
    refine ⟨k, rfl, hw.kid km, by omega, by omega, _, rfl, ?_, ?_⟩
    · have hl : (pre ++ k :: post).flatMap Tr.parts = pre.flatMap Tr.parts ++ (k.parts ++ post.flatMap Tr.parts) := by rw [List.flatMap_append, List.flatMap_cons]
      have h2 := congrArg List.length hp
      rw [e, hl, List.length_append, List.length_append, List.length_append] at h2
      rw [List.length_map, List.length_map]
      omega
    · refine ⟨.d k.enc, ?_⟩
      rw [List.flatMap_append, List.map_append]
      simp only [List.flatMap_cons, List.flatMap_nil, List.append_nil]
      rfl
  · rintro _ ⟨x, rfl⟩
    have h2 := congrArg List.length hp
    rw [List.length_append] at h2
    have h2 : t.parts.length = (t.kids.flatMap Tr.parts).length + 1 := h2
    refine sw_freeze (i := 1) rfl ?_
    walk_at "s"
    refine ⟨by rw [List.length_map]; show (t.kids.flatMap Tr.parts).length + 1 ≤ 16000000; omega, ?_⟩
    rw [hp, List.map_append] at h
    exact h
  ) only [↓qt_eq])
theorem c_lparts {n : Nat} {t : Tr} (hw : t.Wf) (hd : t.depth ≤ n) (hn : n ≤ 11) (h : φ (.list (t.parts.map Tr.enc))) : P_lparts (n + 1) [t.enc] (rE φ ε) := ⟨t, rfl, hw, hd, hn, h⟩
end


end
section
/-! Trees drawn. -/
open PySem PyProof.Rows L2 Evl

namespace Tr
/-- its names stand in a list -/
noncomputable def Ns (ns : List Str) : Tr → Prop
  | nm s => s ∈ ns
  | tm _ t => Ns ns t
  | tn t => Ns ns t
  | cy _ t => Ns ns t
  | pr _ t u => Ns ns t ∧ Ns ns u
theorem Ns.part {ns : List Str} {t k : Tr} : k ∈ t.parts → t.Ns ns → k.Ns ns := qt_of (by simp (disch := with_unfolding_all
  induction t with
  | nm s => intro m h; rw [List.mem_singleton.mp m]; exact h
  | tm n t ih => intro m h; rcases List.mem_append.mp m with m | m; exact ih m h; rw [List.mem_singleton.mp m]; exact h
  | tn t ih => intro m h; rcases List.mem_append.mp m with m | m; exact ih m h; rw [List.mem_singleton.mp m]; exact h
  | cy n t ih => intro m h; rcases List.mem_append.mp m with m | m; exact ih m h; rw [List.mem_singleton.mp m]; exact h
  | pr w t u ih1 ih2 =>
    intro m h
    rcases List.mem_append.mp m with m | m
    · rcases List.mem_append.mp m with m | m
      · exact ih1 m h.1
      · exact ih2 m h.2
    · rw [List.mem_singleton.mp m]; exact h
  ) only [↓qt_eq])
end Tr
section
variable {K : Fg} {cs : Cs} {gs : Gs} {φ : PyData → Prop} {A : Rs → Prop} {ε : Xw → Prop} {w : World}
theorem menu_at {xs : List PyData} {v : Int} (h0 : 0 ≤ v) (h1 : v < xs.length) : ∃ z ∈ xs, atI xs v = some z := by
  obtain ⟨k, rfl⟩ := Int.eq_ofNat_of_zero_le h0
  have hk : k < xs.length := by omega
  exact ⟨xs[k], List.getElem_mem _, atI_nat (List.getElem?_eq_getElem hk)⟩
noncomputable def P_ltree : Nat → Pr
  | 0 => fun _ _ => False
  | n + 1 => fun ds A => ∃ (d : Nat) (ns : List Str), ds = [.int d, .list (ns.map PyData.str)] ∧ d ≤ n ∧ n ≤ 7 ∧ 0 < ns.length ∧ ns.length ≤ 1000 ∧ ∀ t : Tr, t.Wf → t.depth ≤ d → t.Ns ns → A (.ok t.enc)
noncomputable def t__law_tree (K : Fg) (n : Nat) : TS := (tSeq (tAsg (tCall (spB K P_pull) [] E0 (tCons (tVar 0) (tCons (tC (V.int 12)) tNil))) (gName 3))
  (tSeq (tIfS (tOr (tTest (tOp rEq (tVar 1) (tC (V.int 0)))) (tTest (tOp rLtI (tVar 3) (tC (V.int 2))))) (tRet (tTup (tCons (tC (V.str "name")) (tCons (tOp (rIx K) (tVar 2) (tCall (spB K P_pull) [] E0 (tCons (tVar 0) (tCons (tCB (rLenQ K) (tCons (tVar 2) tNil)) tNil)))) tNil)))) tNext)
  (tSeq (tIfS (tTest (tOp rLtI (tVar 3) (tC (V.int 4)))) (tSeq (tAsg (tOp (rIx K) (tLst (tCons (tC (V.int 2)) (tCons (tUn rNegI (tC (V.int 1))) (tCons (tC (V.int 0)) (tCons (tC (V.int 1)) (tCons (tUn rNegI (tC (V.int 3))) (tCons (tOp rPowI (tC (V.int 10)) (tC (V.int 17))) tNil))))))) (tCall (spB K P_pull) [] E0 (tCons (tVar 0) (tCons (tC (V.int 6)) tNil)))) (gName 5))
  (tRet (tTup (tCons (tC (V.str "times")) (tCons (tVar 5) (tCons (tCall (spWB K (P_ltree n)) [] E0 (tCons (tVar 0) (tCons (tOp rSubI (tVar 1) (tC (V.int 1))) (tCons (tVar 2) tNil)))) tNil)))))) tNext)
  (tSeq (tIfS (tTest (tOp rLtI (tVar 3) (tC (V.int 6)))) (tRet (tTup (tCons (tC (V.str "turn")) (tCons (tCall (spWB K (P_ltree n)) [] E0 (tCons (tVar 0) (tCons (tOp rSubI (tVar 1) (tC (V.int 1))) (tCons (tVar 2) tNil)))) tNil)))) tNext)
  (tSeq (tIfS (tTest (tOp rLtI (tVar 3) (tC (V.int 8)))) (tSeq (tAsg (tCall (spB K P_map) [] E0 (tCons (tVar 0) (tCons (tOp rAddI (tC (V.int 1)) (tCall (spB K P_pull) [] E0 (tCons (tVar 0) (tCons (tC (V.int 2)) tNil)))) (tCons (tOp rAddI (tC (V.int 1)) (tCall (spB K P_pull) [] E0 (tCons (tVar 0) (tCons (tC (V.int 2)) tNil)))) tNil)))) (gName 6))
  (tRet (tTup (tCons (tC (V.str "carry")) (tCons (tVar 6) (tCons (tCall (spWB K (P_ltree n)) [] E0 (tCons (tVar 0) (tCons (tOp rSubI (tVar 1) (tC (V.int 1))) (tCons (tVar 2) tNil)))) tNil)))))) tNext)
  (tSeq (tAsg (tOp (rIx K) (tLst (tCons (tC (V.str "add")) (tCons (tC (V.str "take")) (tCons (tC (V.str "meet")) (tCons (tC (V.str "least")) (tCons (tC (V.str "most")) (tCons (tC (V.str "lay")) tNil))))))) (tCall (spB K P_pull) [] E0 (tCons (tVar 0) (tCons (tC (V.int 6)) tNil)))) (gName 4))
  (tRet (tTup (tCons (tVar 4) (tCons (tCall (spWB K (P_ltree n)) [] E0 (tCons (tVar 0) (tCons (tOp rSubI (tVar 1) (tC (V.int 1))) (tCons (tVar 2) tNil)))) (tCons (tCall (spWB K (P_ltree n)) [] E0 (tCons (tVar 0) (tCons (tOp rSubI (tVar 1) (tC (V.int 1))) (tCons (tVar 2) tNil)))) tNil)))))))))))
-- slots of _law_tree: 0 _law_bag_here, 1 _law_deep, 2 _law_names, 3 _law_kind, 4 _law_word, 5 _law_number, 6 _law_table
theorem ln__law_tree {n : Nat} : ∀ ds A, P_ltree (n + 1) ds A → ds.length + 1 = 3 := fun ds A h => by obtain ⟨_, _, rfl, _⟩ := h; rfl
theorem rd__law_tree {n : Nat} {ds A} (h : P_ltree (n + 1) ds A) : SW K cs W0 (t__law_tree K n) (.bag :: frame 6 ds) (rts0 A) := qt_of (by simp (disch := with_unfolding_all
  obtain ⟨d, ns, rfl, hd, hn, n0, n1, h⟩ := h
  have hl : (ns.map PyData.str).length = ns.length := List.length_map ..
  have hnm : ∀ v : Int, 0 ≤ v → v < ((ns.map PyData.str).length : Int) → ∃ z, atI (ns.map PyData.str) v = some z ∧ A (.ok (.tuple [.str "name", z])) := fun v v0 v1 => by
    rw [hl] at v1
    obtain ⟨s, hs, e⟩ := atI_in (f := PyData.str) v0 v1
    exact ⟨_, e, h (.nm s) trivial (Nat.zero_le _) hs⟩
  have again : ∀ {m : Nat} {ψ : PyData → Prop}, n = m → d ≠ 0 → (∀ t : Tr, t.Wf → t.depth + 1 ≤ d → t.Ns ns → ψ t.enc) → P_ltree m [.int ((d : Int) - 1), .list (ns.map PyData.str)] (rE ψ noX) := fun {m ψ} en hd0 k => by
    subst en
    obtain ⟨m', rfl⟩ : ∃ m', n = m' + 1 := ⟨n - 1, by omega⟩
    exact ⟨d - 1, ns, by rw [show ((d : Int) - 1) = ((d - 1 : Nat) : Int) from by omega], by omega, by omega, n0, n1, fun t w hd2 hs => k t w (by omega) hs⟩
  unfold t__law_tree
  walk_at "wi"
  refine cnd_b (fun e => cnd_t ?_) (fun e => ?_)
  · walk_at "w"
    rename_i v0 v1
    obtain ⟨z, ez, az⟩ := hnm _ v0 v1
    exact ⟨z, ez, by walk_at "w"; exact az⟩
  · have d0 : d ≠ 0 := by simpa using e
    walk_at "w"
    refine cnd_b (fun e2 => ?_) (fun e2 => ?_)
    · walk_at "w"
      rename_i v0 v1
      obtain ⟨z, ez, az⟩ := hnm _ v0 v1
      exact ⟨z, ez, by walk_at "w"; exact az⟩
    · walk_at "wi"
      refine cnd_b (fun e3 => ?_) (fun e3 => ?_)
      · walk_at "w"
        refine ⟨⟨by decide, by decide⟩, ?_⟩
        walk_at "w"
        refine ⟨by decide, _, rfl, ?_⟩
        walk_at "w"
        rename_i v0 v1
        obtain ⟨z, mz, ez⟩ := menu_at (xs := [PyData.int 2, PyData.int (-1), PyData.int 0, PyData.int 1, PyData.int (-3), PyData.int (10 ^ Int.toNat 17)]) v0 v1
        refine ⟨z, ez, ?_⟩
        obtain ⟨i, rfl⟩ : ∃ i, z = .int i := by
          simp only [List.mem_cons, List.not_mem_nil, or_false] at mz
          rcases mz with rfl | rfl | rfl | rfl | rfl | rfl <;> exact ⟨_, rfl⟩
        walk_at "w"
        refine again rfl d0 fun t tw td ts => ?_
        walk_at "w"
        exact h (.tm i t) tw td ts
      · walk_at "wi"
        refine cnd_b (fun e4 => ?_) (fun e4 => ?_)
        · walk_at "w"
          refine again rfl d0 fun t tw td ts => ?_
          walk_at "w"
          exact h (.tn t) tw td ts
        · walk_at "wi"
          refine cnd_b (fun e5 => ?_) (fun e5 => ?_)
          · walk_at "w"
            rename_i m hm
            refine again rfl d0 fun t tw td ts => ?_
            walk_at "w"
            exact h (.cy m t) ⟨⟨_, _, hm, by omega, by omega, by omega, by omega⟩, tw⟩ td ts
          · walk_at "w"
            refine ⟨by decide, _, rfl, ?_⟩
            walk_at "w"
            rename_i v0 v1
            obtain ⟨z, mz, ez⟩ := menu_at (xs := [PyData.str "add", PyData.str "take", PyData.str "meet", PyData.str "least", PyData.str "most", PyData.str "lay"]) v0 v1
            refine ⟨z, ez, ?_⟩
            obtain ⟨i, rfl, hi⟩ : ∃ i, z = .str i ∧ i ∈ Tr.pairs := by
              simp only [List.mem_cons, List.not_mem_nil, or_false] at mz
              rcases mz with rfl | rfl | rfl | rfl | rfl | rfl <;> exact ⟨_, rfl, by decide⟩
            walk_at "w"
            refine again rfl d0 fun t tw td ts => ?_
            walk_at "w"
            refine again rfl d0 fun u uw ud us => ?_
            walk_at "w"
            exact h (.pr i t u) ⟨hi, tw, uw⟩ (by show max _ _ + 1 ≤ d; omega) ⟨ts, us⟩
  ) only [↓qt_eq])
theorem c_ltree {n d : Nat} {ns : List Str} (hd : d ≤ n) (hn : n ≤ 7) (n0 : 0 < ns.length) (n1 : ns.length ≤ 1000) (h : ∀ t : Tr, t.Wf → t.depth ≤ d → t.Ns ns → φ t.enc) : P_ltree (n + 1) [.int d, .list (ns.map PyData.str)] (rE φ ε) := ⟨d, ns, rfl, hd, hn, n0, n1, h⟩
/-! trees whose rooms fit -/
noncomputable def Tr.Fit (nps : List (Str × Int)) : Nat → Tr → Prop
  | r, .nm s => (s, (r : Int)) ∈ nps
  | r, .tm _ t => Tr.Fit nps r t
  | r, .tn t => Tr.Fit nps r t
  | r, .cy m t => ∃ st, Mp 10 r st m ∧ (st = 1 ∨ st = 2) ∧ Tr.Fit nps st t
  | r, .pr _ t u => Tr.Fit nps r t ∧ Tr.Fit nps r u
theorem Tr.Fit.ns {nps : List (Str × Int)} : ∀ {t : Tr} {r : Nat}, t.Fit nps r → t.Ns (nps.map (·.1))
  | .nm s, r, h => List.mem_map.mpr ⟨_, h, rfl⟩
  | .tm _ t, r, h => Tr.Fit.ns (t := t) h
  | .tn t, r, h => Tr.Fit.ns (t := t) h
  | .cy _ t, r, ⟨_, _, _, h⟩ => Tr.Fit.ns (t := t) h
  | .pr _ t u, r, ⟨h1, h2⟩ => ⟨Tr.Fit.ns h1, Tr.Fit.ns h2⟩
noncomputable def npD (p : Str × Int) : PyData := .tuple [.str p.1, .int p.2]
noncomputable def unitM (r : Nat) : List (List Fr) := (List.range r).map fun i => ((List.range (r + 1)).map fun _ => ((0, 1) : Fr)).set i (1, 1)
theorem unitM_mp {r : Nat} (hr : r = 1 ∨ r = 2) : Mp 10 r r (unitM r) := qt_of (by simp (disch := with_unfolding_all
  have g0 : Gd 10 ((0, 1) : Fr) := gd_none.mono (by decide)
  have g1 : Gd 10 ((1, 1) : Fr) := ⟨⟨by unfold Bd; decide, by unfold Bd; decide⟩, by decide, by decide⟩
  rcases hr with rfl | rfl
  · refine ⟨rfl, fun q hq => ?_⟩
    rw [show unitM 1 = [[(1, 1), (0, 1)]] from rfl] at hq
    rw [List.mem_singleton.mp hq]
    exact ⟨rfl, fun x hx => by rcases List.mem_cons.mp hx with rfl | hx; exact g1; rw [List.mem_singleton.mp hx]; exact g0⟩
  · refine ⟨rfl, fun q hq => ?_⟩
    rw [show unitM 2 = [[(1, 1), (0, 1), (0, 1)], [(0, 1), (1, 1), (0, 1)]] from rfl] at hq
    have k : q = [(1, 1), (0, 1), (0, 1)] ∨ q = [(0, 1), (1, 1), (0, 1)] := by simpa using hq
    rcases k with rfl | rfl
    · exact ⟨rfl, fun x hx => by simp only [List.mem_cons, List.not_mem_nil, or_false] at hx; rcases hx with rfl | rfl | rfl; exact g1; exact g0; exact g0⟩
    · exact ⟨rfl, fun x hx => by simp only [List.mem_cons, List.not_mem_nil, or_false] at hx; rcases hx with rfl | rfl | rfl; exact g0; exact g1; exact g0⟩
  ) only [↓qt_eq])
noncomputable def P_lunit : Pr := fun ds A => ∃ r : Nat, ds = [.int r] ∧ (r = 1 ∨ r = 2) ∧ A (.ok (mp (unitM r)))
noncomputable def t__law_unit (K : Fg) : TS := (tSeq (tAsg (tLst tNil) (gName 1))
  (tSeq (tFor (iRng1 (tCons (tVar 0) tNil)) (gName 2) (tSeq (tAsg (tLc (iRng1 (tCons (tOp rAddI (tVar 0) (tC (V.int 1))) tNil)) (gName 4) tYes (tTup (tCons (tC (V.int 0)) (tCons (tC (V.int 1)) tNil))) [4]) (gName 3))
  (tSeq (tAsg (tTup (tCons (tC (V.int 1)) (tCons (tC (V.int 1)) tNil))) (gSub (tVar 3) (tVar 2) rSetL))
  (tDrop (tBM K "list" rAppend (tVar 1) (tCons (tCB (rTupQ K) (tCons (tVar 3) tNil)) tNil))))))
  (tRet (tCB (rTupQ K) (tCons (tVar 1) tNil)))))
-- slots of _law_unit: 0 _law_rank_here, 1 _law_found, 2 _law_at, 3 _law_row_here, 4 _law_to
theorem ln__law_unit : ∀ ds A, P_lunit ds A → ds.length = 1 := fun ds A h => by obtain ⟨_, rfl, _⟩ := h; rfl
theorem rd__law_unit {ds A} (h : P_lunit ds A) : SW K cs W0 (t__law_unit K) (frame 5 ds) (rts0 A) := qt_of (by simp (disch := with_unfolding_all
  obtain ⟨r, rfl, hr, h⟩ := h
  unfold t__law_unit
  refine sw_seq (sw_asgF (ef_lst0 ?_))
  walk_at "s"
  refine sw_seq ?_
  walk_at "s"
  have hr2 : r ≤ 2 := by omega
  refine forN (k := r) (fun i G => ∃ x y, G = [.d (.int r), .ow (ol ((((List.range i).map fun i => ((List.range (r + 1)).map fun _ => ((0, 1) : Fr)).set i (1, 1))).map frs)), x, y, .un]) ⟨_, _, rfl⟩ ?_ ?_
  · rintro i _ hi ⟨x, y, rfl⟩
    refine gw_name ?_
    refine sw_seq (sw_asgF (ef_lc ?_))
    refine iw_rng1 ?_
    walk_at "s"
    rw [show ((r : Int) + 1).toNat = r + 1 from by omega]
    refine lcM (f := fun i : Nat => .int (0 + (i : Int))) (fun _ => fr (0, 1)) (by rw [List.length_range]; omega) (unk1 rfl) (fun k hk => ?_) ?_
    · refine gc_name (by simp) ?_
      walk_at "w"
      rfl
    refine sw_seq (sw_setI (i := 3) rfl ?_)
    walk_at "s"
    refine ⟨_, _, rfl, ixN_nat (j := i) (by rw [List.length_map, List.length_range]; omega), ?_⟩
    refine sw_app (i := 1) (xs := (((List.range i).map fun i => ((List.range (r + 1)).map fun _ => ((0, 1) : Fr)).set i (1, 1))).map frs) rfl (by rw [List.length_map, List.length_map, List.length_range]; omega) ?_
    refine ew_tupO (i := 3) rfl ?_
    have e : ((List.range (r + 1)).map fun _ => fr ((0, 1) : Fr)).set i (PyData.tuple [.int 1, .int 1]) = (((List.range (r + 1)).map fun _ => ((0, 1) : Fr)).set i (1, 1)).map fr := by
      rw [List.map_set, List.map_map]
      rfl
    rw [e]
    exact ⟨_, _, by rw [List.range_succ (n := i), List.map_append, List.map_append]; rfl⟩
  · rintro _ ⟨x, y, rfl⟩
    refine sw_ret (ew_tupO (i := 1) rfl ?_)
    exact h
  ) only [↓qt_eq])
noncomputable def P_lfit : Nat → Pr
  | 0 => fun _ _ => False
  | n + 1 => fun ds A => ∃ (d r : Nat) (nps : List (Str × Int)), ds = [.int d, .int r, .list (nps.map npD)] ∧ d ≤ n ∧ n ≤ 7 ∧ (r = 1 ∨ r = 2) ∧ nps.length ≤ 1000 ∧ (∀ q : Nat, q = 1 ∨ q = 2 → ∃ p ∈ nps, p.2 = (q : Int)) ∧ ∀ t : Tr, t.Wf → t.depth ≤ d → t.Fit nps r → A (.ok t.enc)
noncomputable def t__law_fit_tree (K : Fg) (n : Nat) : TS := (tSeq (tAsg (tCall (spB K P_pull) [] E0 (tCons (tVar 0) (tCons (tC (V.int 13)) tNil))) (gName 4))
  (tSeq (tIfS (tOr (tTest (tOp rEq (tVar 1) (tC (V.int 0)))) (tTest (tOp rLtI (tVar 4) (tC (V.int 2))))) (tSeq (tAsg (tLc (iList K (tVar 3)) (gTup K 2 (gCons (gName 10) (gCons (gName 11) gNil))) (tTest (tOp rEq (tVar 11) (tVar 2))) (tVar 10) [10, 11]) (gName 7))
  (tIfS (tTest (tOp rGtI (tCB (rLenQ K) (tCons (tVar 7) tNil)) (tC (V.int 0)))) (tRet (tTup (tCons (tC (V.str "name")) (tCons (tOp (rIx K) (tVar 7) (tCall (spB K P_pull) [] E0 (tCons (tVar 0) (tCons (tCB (rLenQ K) (tCons (tVar 7) tNil)) tNil)))) tNil)))) tNext)) tNext)
  (tSeq (tIfS (tTest (tOp rEq (tVar 1) (tC (V.int 0)))) (tRet (tTup (tCons (tC (V.str "carry")) (tCons (tCall (spB K P_map) [] E0 (tCons (tVar 0) (tCons (tOp rSubI (tC (V.int 3)) (tVar 2)) (tCons (tVar 2) tNil)))) (tCons (tTup (tCons (tC (V.str "name")) (tCons (tOp (rIx K) (tLc (iList K (tVar 3)) (gTup K 2 (gCons (gName 10) (gCons (gName 11) gNil))) (tTest (tOp rNe (tVar 11) (tVar 2))) (tVar 10) [10, 11]) (tC (V.int 0))) tNil))) tNil))))) tNext)
  (tSeq (tIfS (tTest (tOp rLtI (tVar 4) (tC (V.int 5)))) (tRet (tTup (tCons (tC (V.str "times")) (tCons (tOp (rIx K) (tLst (tCons (tC (V.int 2)) (tCons (tUn rNegI (tC (V.int 1))) (tCons (tC (V.int 1)) (tCons (tUn rNegI (tC (V.int 3))) (tCons (tC (V.int 0)) tNil)))))) (tCall (spB K P_pull) [] E0 (tCons (tVar 0) (tCons (tC (V.int 5)) tNil)))) (tCons (tCall (spWB K (P_lfit n)) [] E0 (tCons (tVar 0) (tCons (tOp rSubI (tVar 1) (tC (V.int 1))) (tCons (tVar 2) (tCons (tVar 3) tNil))))) tNil))))) tNext)
  (tSeq (tIfS (tTest (tOp rLtI (tVar 4) (tC (V.int 7)))) (tRet (tTup (tCons (tC (V.str "turn")) (tCons (tCall (spWB K (P_lfit n)) [] E0 (tCons (tVar 0) (tCons (tOp rSubI (tVar 1) (tC (V.int 1))) (tCons (tVar 2) (tCons (tVar 3) tNil))))) tNil)))) tNext)
  (tSeq (tIfS (tTest (tOp rLtI (tVar 4) (tC (V.int 9)))) (tSeq (tAsg (tOp rAddI (tC (V.int 1)) (tCall (spB K P_pull) [] E0 (tCons (tVar 0) (tCons (tC (V.int 2)) tNil)))) (gName 8))
  (tSeq (tAsg (tCall (spB K P_map) [] E0 (tCons (tVar 0) (tCons (tVar 8) (tCons (tVar 2) tNil)))) (gName 9))
  (tSeq (tIfS (tAnd (tTest (tOp rEq (tVar 8) (tVar 2))) (tTest (tOp rEq (tCall (spB K P_pull) [] E0 (tCons (tVar 0) (tCons (tC (V.int 3)) tNil))) (tC (V.int 0))))) (tAsg (tCall (spW0 K P_lunit) [] E0 (tCons (tVar 2) tNil)) (gName 9)) tNext)
  (tRet (tTup (tCons (tC (V.str "carry")) (tCons (tVar 9) (tCons (tCall (spWB K (P_lfit n)) [] E0 (tCons (tVar 0) (tCons (tOp rSubI (tVar 1) (tC (V.int 1))) (tCons (tVar 8) (tCons (tVar 3) tNil))))) tNil)))))))) tNext)
  (tSeq (tAsg (tOp (rIx K) (tLst (tCons (tC (V.str "add")) (tCons (tC (V.str "take")) (tCons (tC (V.str "meet")) (tCons (tC (V.str "lay")) tNil))))) (tCall (spB K P_pull) [] E0 (tCons (tVar 0) (tCons (tC (V.int 4)) tNil)))) (gName 5))
  (tSeq (tAsg (tCall (spWB K (P_lfit n)) [] E0 (tCons (tVar 0) (tCons (tOp rSubI (tVar 1) (tC (V.int 1))) (tCons (tVar 2) (tCons (tVar 3) tNil))))) (gName 6))
  (tRet (tTup (tCons (tVar 5) (tCons (tVar 6) (tCons (tCall (spWB K (P_lfit n)) [] E0 (tCons (tVar 0) (tCons (tOp rSubI (tVar 1) (tC (V.int 1))) (tCons (tVar 2) (tCons (tVar 3) tNil))))) tNil)))))))))))))
-- slots of _law_fit_tree: 0 _law_bag_here, 1 _law_deep, 2 _law_rank_here, 3 _law_names, 4 _law_kind, 5 _law_word, 6 _law_first, 7 _law_fitting, 8 _law_start, 9 _law_table, 10 _law_name, 11 _law_size
theorem ln__law_fit_tree {n : Nat} : ∀ ds A, P_lfit (n + 1) ds A → ds.length + 1 = 4 := fun ds A h => by obtain ⟨_, _, _, rfl, _⟩ := h; rfl
theorem rd__law_fit_tree {n : Nat} {ds A} (h : P_lfit (n + 1) ds A) : SW K cs W0 (t__law_fit_tree K n) (.bag :: frame 11 ds) (rts0 A) := qt_of (by simp (disch := with_unfolding_all
  obtain ⟨d, r, nps, rfl, hd, hn, hr, n1, hf, h⟩ := h
  have hfl : ((nps.filter fun p => decide (p.2 = (r : Int))).map fun p => PyData.str p.1).length = (nps.filter fun p => decide (p.2 = (r : Int))).length := List.length_map ..
  have hf0 : 0 < (nps.filter fun p => decide (p.2 = (r : Int))).length := by
    obtain ⟨p, hp, e⟩ := hf r hr
    exact List.length_pos_of_mem (List.mem_filter.mpr ⟨hp, by simpa using e⟩)
  have hfu : (nps.filter fun p => decide (p.2 = (r : Int))).length ≤ 1000 := Nat.le_trans (List.length_filter_le ..) n1
  have hnm : ∀ v : Int, 0 ≤ v → v < (((nps.filter fun p => decide (p.2 = (r : Int))).map fun p => PyData.str p.1).length : Int) → ∃ z, atI ((nps.filter fun p => decide (p.2 = (r : Int))).map fun p => PyData.str p.1) v = some z ∧ A (.ok (.tuple [.str "name", z])) := fun v v0 v1 => by
    rw [hfl] at v1
    obtain ⟨p, hp, e⟩ := atI_in (f := fun p : Str × Int => PyData.str p.1) v0 v1
    obtain ⟨hp, e2⟩ := List.mem_filter.mp hp
    have e2 : p.2 = (r : Int) := by simpa using e2
    exact ⟨_, e, h (.nm p.1) trivial (Nat.zero_le _) (by show (p.1, (r : Int)) ∈ nps; rw [← e2]; exact hp)⟩
  have again : ∀ {m q : Nat} {ψ : PyData → Prop}, n = m → d ≠ 0 → (q = 1 ∨ q = 2) → (∀ t : Tr, t.Wf → t.depth + 1 ≤ d → t.Fit nps q → ψ t.enc) → P_lfit m [.int ((d : Int) - 1), .int q, .list (nps.map npD)] (rE ψ noX) := fun {m q ψ} en hd0 hq k => by
    subst en
    obtain ⟨m', rfl⟩ : ∃ m', n = m' + 1 := ⟨n - 1, by omega⟩
    exact ⟨d - 1, q, nps, by rw [show ((d : Int) - 1) = ((d - 1 : Nat) : Int) from by omega], by omega, by omega, hq, n1, hf, fun t w hd2 hs => k t w (by omega) hs⟩
  unfold t__law_fit_tree
  walk_at "wi"
  refine cnd_b (fun e => cnd_t ?_) (fun e => ?_)
  · walk_at "w"
    refine lcF (f := npD) (fun p => decide (p.2 = (r : Int))) (fun p => .str p.1) (by omega) (unk2 rfl rfl) (fun p hp => ?_) ?_
    · refine gc_tup rfl (gsc_cons (gc_name (by simp) (gsc_cons (gc_name (by simp) (gsc_nil ?_)))))
      walk_at "w"
      exact ⟨rfl, fun _ => by walk_at "w"; rfl⟩
    refine ⟨_, rfl, ?_⟩
    walk_at "wi"
    refine cnd_yes (by rw [hfl]; omega) ?_
    walk_at "w"
    rename_i v0 v1
    obtain ⟨z, ez, az⟩ := hnm _ v0 v1
    exact ⟨z, ez, by walk_at "w"; exact az⟩
  · have d0 : d ≠ 0 := by simpa using e
    walk_at "w"
    refine cnd_b (fun e2 => ?_) (fun e2 => ?_)
    · walk_at "w"
      refine lcF (f := npD) (fun p => decide (p.2 = (r : Int))) (fun p => .str p.1) (by omega) (unk2 rfl rfl) (fun p hp => ?_) ?_
      · refine gc_tup rfl (gsc_cons (gc_name (by simp) (gsc_cons (gc_name (by simp) (gsc_nil ?_)))))
        walk_at "w"
        exact ⟨rfl, fun _ => by walk_at "w"; rfl⟩
      refine ⟨_, rfl, ?_⟩
      walk_at "wi"
      refine cnd_yes (by rw [hfl]; omega) ?_
      walk_at "w"
      rename_i v0 v1
      obtain ⟨z, ez, az⟩ := hnm _ v0 v1
      exact ⟨z, ez, by walk_at "w"; exact az⟩
    · walk_at "wi"
      refine cnd_no (by omega) ?_
      walk_at "wi"
      refine cnd_b (fun e3 => ?_) (fun e3 => ?_)
      · walk_at "w"
        refine ⟨by decide, _, rfl, ?_⟩
        walk_at "w"
        rename_i v0 v1
        obtain ⟨z, mz, ez⟩ := menu_at (xs := [PyData.int 2, PyData.int (-1), PyData.int 1, PyData.int (-3), PyData.int 0]) v0 v1
        refine ⟨z, ez, ?_⟩
        obtain ⟨i, rfl⟩ : ∃ i, z = .int i := by
          simp only [List.mem_cons, List.not_mem_nil, or_false] at mz
          rcases mz with rfl | rfl | rfl | rfl | rfl <;> exact ⟨_, rfl⟩
        walk_at "w"
        refine again rfl d0 hr fun t tw td ts => ?_
        walk_at "w"
        exact h (.tm i t) tw td ts
      · walk_at "wi"
        refine cnd_b (fun e4 => ?_) (fun e4 => ?_)
        · walk_at "w"
          refine again rfl d0 hr fun t tw td ts => ?_
          walk_at "w"
          exact h (.tn t) tw td ts
        · walk_at "wi"
          refine cnd_b (fun e5 => ?_) (fun e5 => ?_)
          · walk_at "w"
            rename_i vk k0 k1 vs s0 s1 m hm
            refine sw_cut (fun G => ∃ m', Mp 10 r (1 + vs).toNat m' ∧ G = ((((En.bag :: frame 11 [PyData.int ↑d, PyData.int ↑r, PyData.list (List.map npD nps)]).set 4 (En.d (PyData.int vk))).set 8 (En.d (PyData.int (1 + vs)))).set 9 (En.d (mp m')))) ?_ ?_
            · have hm : Mp 10 r (1 + vs).toNat m := hm
              have keep : ∃ m', Mp 10 r (1 + vs).toNat m' ∧ ((((En.bag :: frame 11 [PyData.int ↑d, PyData.int ↑r, PyData.list (List.map npD nps)]).set 4 (En.d (PyData.int vk))).set 8 (En.d (PyData.int (1 + vs)))).set 9 (En.d (mp m))) = ((((En.bag :: frame 11 [PyData.int ↑d, PyData.int ↑r, PyData.list (List.map npD nps)]).set 4 (En.d (PyData.int vk))).set 8 (En.d (PyData.int (1 + vs)))).set 9 (En.d (mp m'))) := ⟨m, hm, rfl⟩
              walk_at "wi"
              refine cnd_b (fun e6 => ?_) (fun e6 => ?_)
              · have e6 : 1 + vs = (r : Int) := by simpa using e6
                walk_at "wi"
                refine cnd_b (fun e7 => ?_) (fun e7 => ?_)
                · walk_at "w"
                  refine ⟨r, rfl, hr, ?_⟩
                  exact ⟨_, rfl, unitM r, by rw [show (1 + vs).toNat = r from by omega]; exact unitM_mp hr, rfl⟩
                · walk_at "w"
                  exact keep
              · walk_at "w"
                exact keep
            · rintro _ ⟨m', hm', rfl⟩
              walk_at "w"
              obtain ⟨st, hst⟩ : ∃ st : Nat, 1 + vs = (st : Int) := ⟨(1 + vs).toNat, by omega⟩
              rw [hst] at hm' ⊢
              have hm' : Mp 10 r st m' := hm'
              have s12 : st = 1 ∨ st = 2 := by omega
              refine again rfl d0 s12 fun t tw td ts => ?_
              walk_at "w"
              exact h (.cy m' t) ⟨⟨r, st, hm', by omega, by omega, by omega, by omega⟩, tw⟩ td ⟨st, hm', s12, ts⟩
          · walk_at "w"
            refine ⟨by decide, _, rfl, ?_⟩
            walk_at "w"
            rename_i v0 v1
            obtain ⟨z, mz, ez⟩ := menu_at (xs := [PyData.str "add", PyData.str "take", PyData.str "meet", PyData.str "lay"]) v0 v1
            refine ⟨z, ez, ?_⟩
            obtain ⟨i, rfl, hi⟩ : ∃ i, z = .str i ∧ i ∈ Tr.pairs := by
              simp only [List.mem_cons, List.not_mem_nil, or_false] at mz
              rcases mz with rfl | rfl | rfl | rfl <;> exact ⟨_, rfl, by decide⟩
            walk_at "w"
            refine again rfl d0 hr fun t tw td ts => ?_
            walk_at "w"
            refine again rfl d0 hr fun u uw ud us => ?_
            walk_at "w"
            exact h (.pr i t u) ⟨hi, tw, uw⟩ (by show max _ _ + 1 ≤ d; omega) ⟨ts, us⟩
  ) only [↓qt_eq])
theorem c_lfit {n d r : Nat} {nps : List (Str × Int)} (hd : d ≤ n) (hn : n ≤ 7) (hr : r = 1 ∨ r = 2) (n1 : nps.length ≤ 1000) (hf : ∀ q : Nat, q = 1 ∨ q = 2 → ∃ p ∈ nps, p.2 = (q : Int)) (h : ∀ t : Tr, t.Wf → t.depth ≤ d → t.Fit nps r → φ t.enc) : P_lfit (n + 1) [.int d, .int r, .list (nps.map npD)] (rE φ ε) := ⟨d, r, nps, rfl, hd, hn, hr, n1, hf, h⟩
end


end
section
/-! The room of a tree. -/
open PySem PyProof.Rows L2 Evl

inductive Ref where
  | no (s : Str)
  | other
noncomputable def Ref.xw : Ref → Xw
  | .no s => ⟨"NoName", [("word", .str "NoName"), ("name", .str s)]⟩
  | .other => ⟨"OtherRoom", [("word", .str "OtherRoom")]⟩
noncomputable def Ref.dat : Ref → PyData
  | .no s => .tuple [.str "NoName", .str s]
  | .other => .tuple [.str "OtherRoom", .str ""]
noncomputable def lookI (kvs : Sd) (s : Str) : Option Int := match lookS kvs s with | some (.int i) => some i | _ => none
/-- its room, or the refusal due first -/
noncomputable def Tr.room (lk : Str → Option Int) : Tr → Except Ref Int
  | .nm s => match lk s with | some i => .ok i | none => .error (.no s)
  | .tm _ t => Tr.room lk t
  | .tn t => Tr.room lk t
  | .cy m t => match Tr.room lk t with
    | .ok i => if ((m.headD []).length : Int) - 1 = i then .ok m.length else .error .other
    | .error e => .error e
  | .pr _ t u => match Tr.room lk t with
    | .ok i => (match Tr.room lk u with
      | .ok j => if i = j then .ok i else .error .other
      | .error e => .error e)
    | .error e => .error e
noncomputable def roomX (kvs : Sd) (t : Tr) : Except Xw PyData := match t.room (lookI kvs) with | .ok i => .ok (.int i) | .error r => .error r.xw
theorem roomX_ok {kvs : Sd} {t : Tr} {y : PyData} (h : roomX kvs t = .ok y) : ∃ i, y = .int i ∧ t.room (lookI kvs) = .ok i := by
  unfold roomX at h
  cases e : Tr.room (lookI kvs) t with
  | ok i => rw [e] at h; exact ⟨i, (Except.ok.inj h).symm, rfl⟩
  | error r => rw [e] at h; cases h
theorem roomX_er {kvs : Sd} {t : Tr} {y : Xw} (h : roomX kvs t = .error y) : ∃ r, y = r.xw ∧ t.room (lookI kvs) = .error r := by
  unfold roomX at h
  cases e : Tr.room (lookI kvs) t with
  | ok i => rw [e] at h; cases h
  | error r => rw [e] at h; exact ⟨r, (Except.error.inj h).symm, rfl⟩
theorem room_err {kvs : Sd} {t k : Tr} {pre post : List Tr} {e : Xw} (hk : t.kids = pre ++ k :: post) (hp : ∀ y ∈ pre, ∃ v, roomX kvs y = .ok v) (he : roomX kvs k = .error e) : ∃ r, e = r.xw ∧ t.room (lookI kvs) = .error r := qt_of (by simp (disch := with_unfolding_all
  obtain ⟨r, rfl, e2⟩ := roomX_er he
  refine ⟨r, rfl, ?_⟩
  cases t with
  | nm s => cases pre <;> cases hk
  | tm i t =>
    cases pre with
    | nil => cases hk; exact e2
    | cons a pre => cases pre <;> cases hk
  | tn t =>
    cases pre with
    | nil => cases hk; exact e2
    | cons a pre => cases pre <;> cases hk
  | cy m t =>
    cases pre with
    | nil => cases hk; show (match Tr.room _ k with | .ok i => _ | .error e => _) = _; rw [e2]
    | cons a pre => cases pre <;> cases hk
  | pr v t u =>
    cases pre with
    | nil => cases hk; show (match Tr.room _ k with | .ok i => _ | .error e => _) = _; rw [e2]
    | cons a pre =>
      cases pre with
      | nil =>
        cases hk
        obtain ⟨y, hy⟩ := hp t (List.mem_singleton.mpr rfl)
        obtain ⟨i, _, e3⟩ := roomX_ok hy
        show (match Tr.room _ t with | .ok i => _ | .error e => _) = _
        rw [e3]
        show (match Tr.room _ k with | .ok i => _ | .error e => _) = _
        rw [e2]
      | cons b pre => cases pre <;> cases hk
  ) only [↓qt_eq])
noncomputable def Ints (kvs : Sd) : Prop := ∀ s x, lookS kvs s = some x → ∃ i, x = .int i
section
variable {K : Fg} {cs : Cs} {gs : Gs} {φ : PyData → Prop} {A : Rs → Prop} {ε : Xw → Prop} {w : World}
noncomputable def P_roomOf (K : Fg) : Nat → PrE
  | 0 => fun _ _ => False
  | n + 1 => fun es A => ∃ (t : Tr) (kvs : Sd), es = [.d t.enc, .rv (ownR K (sd kvs))] ∧ t.Wf ∧ t.depth ≤ n ∧ n ≤ 11 ∧ Ints kvs ∧ match t.room (lookI kvs) with | .ok i => A (.ok (.int i)) | .error r => A (.er r.xw)
noncomputable def t_room_of (K : Fg) (n : Nat) (cs : Cs) (W : WX) : TS := (tSeq (tAsg (tLcX (iList K (tCall (spW0 K P_inner) [] E0 (tCons (tVar 0) tNil))) (gName 3) tYes (fun W => (tCallSD (spEX K cs (P_roomOf K n)) [] (WE W) (tCons (tVar 3) (tCons (tVar 1) tNil)))) [3] W) (gName 2))
  (tSeq (tIfS (tTest (tOp rEq (tOp (rIx K) (tVar 0) (tC (V.int 0))) (tC (V.str "name")))) (tSeq (tIfS (tB (tDNotIn (tOp (rIx K) (tVar 0) (tC (V.int 1))) (tVar 1))) (tRaiseX (cs "NoName") (spIn K ["name", "word"] (gNw "NoName")) [] (tCons (tOp (rIx K) (tVar 0) (tC (V.int 1))) tNil) W) tNext)
  (tRet (tDGet (tVar 1) (tOp (rIx K) (tVar 0) (tC (V.int 1)))))) tNext)
  (tSeq (tIfS (tTest (tOp rEq (tOp (rIx K) (tVar 0) (tC (V.int 0))) (tC (V.str "carry")))) (tSeq (tIfS (tTest (tOp rNe (tOp rSubI (tCB (rLenQ K) (tCons (tOp (rIx K) (tOp (rIx K) (tVar 0) (tC (V.int 1))) (tC (V.int 0))) tNil)) (tC (V.int 1))) (tOp (rIx K) (tVar 2) (tC (V.int 0))))) (tRaiseX (cs "OtherRoom") (spIn K ["word"] (gCw "OtherRoom")) [] tNil W) tNext)
  (tRet (tCB (rLenQ K) (tCons (tOp (rIx K) (tVar 0) (tC (V.int 1))) tNil)))) tNext)
  (tSeq (tIfS (tTest (tOp rNe (tOp (rIx K) (tVar 2) (tC (V.int 0))) (tOp (rIx K) (tVar 2) (tUn rNegI (tC (V.int 1)))))) (tRaiseX (cs "OtherRoom") (spIn K ["word"] (gCw "OtherRoom")) [] tNil W) tNext)
  (tRet (tOp (rIx K) (tVar 2) (tC (V.int 0))))))))
-- slots of room_of: 0 tree, 1 rooms, 2 inner, 3 one
theorem ln_room_of {n : Nat} : ∀ es A, P_roomOf K (n + 1) es A → es.length = 2 := fun ds A h => by obtain ⟨_, _, rfl, _⟩ := h; rfl
theorem rd_room_of {n : Nat} {es A} (c1 : ClsF K cs "NoName" ["name", "word"]) (c2 : ClsF K cs "OtherRoom" ["word"]) (h : P_roomOf K (n + 1) es A) (W : WX) : SW K cs W (t_room_of K n cs W) (frameE 4 es) (rts A) := qt_of (by simp (disch := with_unfolding_all
  obtain ⟨t, kvs, rfl, hw, hd, hn, hi, h⟩ := h
  unfold t_room_of
  walk_at "wi"
  refine ew_lcX (iw_list ?_)
  walk_at "w"
  have k2 : t.kids.length ≤ 2 := by cases t <;> first | exact Nat.le_refl 2 | exact Nat.le_succ 1 | exact Nat.zero_le 2
  refine c_inner hw ⟨_, rfl, lcXs (roomX kvs) (by omega) (unk1 rfl) (fun k hk => ?_) ?_ ?_⟩
  · refine gc_name (by simp) fun W' => ?_
    refine ew_callEX (ma_d (ew_var rfl (ma_r (rw_var rfl (ma_nil ?_)))))
    have kd := Tr.kid_depth hk
    obtain ⟨m, rfl⟩ : ∃ m, n = m + 1 := ⟨n - 1, by omega⟩
    refine ⟨k, kvs, rfl, hw.kid hk, by omega, by omega, hi, ?_⟩
    unfold roomX
    cases Tr.room (lookI kvs) k with
    | ok i => exact rfl
    | error r => exact rfl
  · intro pre k post e hk hp he
    show A (.er e)
    have key : ∃ r, e = r.xw ∧ t.room (lookI kvs) = .error r := room_err hk hp he
    obtain ⟨r, rfl, e2⟩ := key
    rw [e2] at h
    exact h
  · intro ys hys
    refine ⟨_, rfl, ?_⟩
    cases t with
    | nm s =>
      walk_at "wi"
      refine cnd_yes rfl ?_
      refine sw_seq (sw_if (tw_B (ew_sdNot ?_)))
      walk_at "w"
      refine ⟨s, kvs, rfl, .inr (.inr rfl), _, rfl, ?_⟩
      cases hl : lookS kvs s with
      | none =>
        refine cnd_t ?_
        refine sw_raise1 c1 ?_
        walk_at "w"
        refine ⟨_, _, rfl, rfl, ?_⟩
        have e : Tr.room (lookI kvs) (.nm s) = .error (.no s) := by unfold Tr.room lookI; rw [hl]
        rw [e] at h
        exact h
      | some x =>
        obtain ⟨i, rfl⟩ := hi s x hl
        refine cnd_f ?_
        walk_at "w"
        refine ew_sdGet (kvs := kvs) (.inr (.inr rfl)) ?_
        walk_at "w"
        refine ⟨s, _, rfl, hl, ?_⟩
        have e : Tr.room (lookI kvs) (.nm s) = .ok i := by unfold Tr.room lookI; rw [hl]
        rw [e] at h
        exact h
    | tm i t =>
      cases hys with
      | cons a b =>
        cases b
        obtain ⟨j, rfl, e⟩ := roomX_ok a
        have e : Tr.room (lookI kvs) (.tm i t) = .ok j := e
        rw [e] at h
        walk_at "wi"
        refine cnd_no (by decide) ?_
        walk_at "wi"
        refine cnd_no (by decide) ?_
        walk_at "wi"
        refine ⟨_, rfl, ?_⟩
        walk_at "wi"
        refine cnd_nd (fun z => absurd rfl z) fun _ => ?_
        walk_at "w"
        exact h
    | tn t =>
      cases hys with
      | cons a b =>
        cases b
        obtain ⟨j, rfl, e⟩ := roomX_ok a
        have e : Tr.room (lookI kvs) (.tn t) = .ok j := e
        rw [e] at h
        walk_at "wi"
        refine cnd_no (by decide) ?_
        walk_at "wi"
        refine cnd_no (by decide) ?_
        walk_at "wi"
        refine ⟨_, rfl, ?_⟩
        walk_at "wi"
        refine cnd_nd (fun z => absurd rfl z) fun _ => ?_
        walk_at "w"
        exact h
    | cy m t =>
      cases hys with
      | cons a b =>
        cases b
        obtain ⟨j, rfl, e⟩ := roomX_ok a
        have e2 : Tr.room (lookI kvs) (.cy m t) = if ((m.headD []).length : Int) - 1 = j then .ok m.length else .error .other := by
          show (match Tr.room _ t with | .ok i => _ | .error e => _) = _
          rw [e]
        rw [e2] at h
        obtain ⟨⟨gl, st, hm, g0, g1, s0, s1⟩, _⟩ := hw
        obtain ⟨r0, rs, rfl⟩ : ∃ r0 rs, m = r0 :: rs := by
          cases m with
          | nil => have := hm.len; simp at this; omega
          | cons a b => exact ⟨a, b, rfl⟩
        walk_at "wi"
        refine cnd_no (by decide) ?_
        walk_at "wi"
        refine cnd_yes rfl ?_
        walk_at "wi"
        rw [List.length_map]
        have h : match (if (r0.length : Int) - 1 = j then (.ok ((r0 :: rs).length : Int) : Except Ref Int) else .error .other) with | .ok i => A (.ok (.int i)) | .error r => A (.er r.xw) := h
        refine cnd_nd (fun z => ?_) fun z => ?_
        · rw [if_neg z] at h
          refine sw_raise0 c2 rfl ?_
          exact h
        · rw [if_pos z] at h
          walk_at "w"
          rw [List.length_map]
          exact h
    | pr v t u =>
      cases hys with
      | cons a b =>
        cases b with
        | cons b c =>
          cases c
          obtain ⟨i, rfl, e⟩ := roomX_ok a
          obtain ⟨j, rfl, e'⟩ := roomX_ok b
          have e2 : Tr.room (lookI kvs) (.pr v t u) = if i = j then .ok i else .error .other := by
            show (match Tr.room _ t with | .ok i => _ | .error e => _) = _
            rw [e]
            show (match Tr.room _ u with | .ok i => _ | .error e => _) = _
            rw [e']
          rw [e2] at h
          have hv := Tr.pairs_ne hw.1
          walk_at "wi"
          refine cnd_no hv.1 ?_
          walk_at "wi"
          refine cnd_no hv.2.2.1 ?_
          walk_at "wi"
          refine ⟨_, rfl, ?_⟩
          walk_at "wi"
          refine cnd_nd (fun z => ?_) fun z => ?_
          · rw [if_neg z] at h
            refine sw_raise0 c2 rfl ?_
            exact h
          · rw [if_pos z] at h
            walk_at "w"
            exact h
  ) only [↓qt_eq])
theorem c_roomOf {n : Nat} {t : Tr} {kvs : Sd} (hw : t.Wf) (hd : t.depth ≤ n) (hn : n ≤ 11) (hi : Ints kvs) (h1 : ∀ i, t.room (lookI kvs) = .ok i → φ (.int i)) (h2 : ∀ r, t.room (lookI kvs) = .error r → ε r.xw) : P_roomOf K (n + 1) [.d t.enc, .rv (ownR K (sd kvs))] (rE φ ε) := by
  refine ⟨t, kvs, rfl, hw, hd, hn, hi, ?_⟩
  cases e : t.room (lookI kvs) with
  | ok i => exact h1 i e
  | error r => exact h2 r e
noncomputable def rankD : Except Ref Int → PyData
  | .ok i => .int i
  | .error r => r.dat
noncomputable def P_told54 (K : Fg) : PrE := fun es A => ∃ (t : Tr) (kvs : Sd), es = [.d t.enc, .rv (ownR K (sd kvs))] ∧ t.Wf ∧ t.depth ≤ 11 ∧ Ints kvs ∧ A (.ok (rankD (t.room (lookI kvs))))
noncomputable def t_told54 (K : Fg) (cs : Cs) : TS := (tTryN K (fun W => (tRet (tCallSD (spEX K cs (P_roomOf K 12)) [] (WE W) (tCons (tVar 0) (tCons (tVar 1) tNil))))) [((.ref (cs "NoName") : Value), 2, fun a cls d => (tRet (tTup (tCons (tXf a cls d (cs "NoName") "word" (tVar 2)) (tCons (tXf a cls d (cs "NoName") "name" (tVar 2)) tNil))))), ((.ref (cs "OtherRoom") : Value), 2, fun a cls d => (tRet (tTup (tCons (tXf a cls d (cs "OtherRoom") "word" (tVar 2)) (tCons (tC (V.str "")) tNil)))))])
-- slots of told54: 0 _law_tree_here, 1 _law_ranks, 2 why
theorem ln_told54 : ∀ es A, P_told54 K es A → es.length = 2 := fun ds A h => by obtain ⟨_, _, rfl, _⟩ := h; rfl
theorem rd_told54 {es A} (e1 : PySem.W.exmOne K (.ref (cs "NoName")) (.ref (cs "NoName")) = some true) (e2 : PySem.W.exmOne K (.ref (cs "OtherRoom")) (.ref (cs "NoName")) = some false) (e3 : PySem.W.exmOne K (.ref (cs "OtherRoom")) (.ref (cs "OtherRoom")) = some true)
    (h : P_told54 K es A) : SW K cs W0 (t_told54 K cs) (frameE 3 es) (rts0 A) := qt_of (by simp (disch := with_unfolding_all
  obtain ⟨t, kvs, rfl, hw, hd, hi, h⟩ := h
  unfold t_told54
  refine sw_tryN fun W' => ?_
  refine sw_ret (ew_callEX (ma_d (ew_var rfl (ma_r (rw_var rfl (ma_nil ?_))))))
  refine c_roomOf hw hd (Nat.le_refl _) hi (fun i e => ?_) fun r e => ?_
  · rw [e] at h; exact h
  · rw [e] at h
    cases r with
    | no s =>
      refine ⟨_, e1, cnd_t fun a d => ?_⟩
      walk_at "w"
      refine ew_xfS rfl rfl ?_
      refine ew_xfS rfl rfl ?_
      exact h
    | other =>
      refine ⟨_, e2, cnd_f ⟨_, e3, cnd_t fun a d => ?_⟩⟩
      walk_at "w"
      refine ew_xfS rfl rfl ?_
      walk_at "w"
      exact h
  ) only [↓qt_eq])
theorem c_told54 {t : Tr} {kvs : Sd} (hw : t.Wf) (hd : t.depth ≤ 11) (hi : Ints kvs) (h : φ (rankD (t.room (lookI kvs)))) : P_told54 K [.d t.enc, .rv (ownR K (sd kvs))] (rE φ ε) := ⟨t, kvs, rfl, hw, hd, hi, h⟩
noncomputable def P_lrank (K : Fg) : Nat → PrE
  | 0 => fun _ _ => False
  | n + 1 => fun es A => ∃ (t : Tr) (kvs : Sd), es = [.d t.enc, .rv (ownR K (sd kvs))] ∧ t.Wf ∧ t.depth ≤ n ∧ n ≤ 11 ∧ Ints kvs ∧ A (.ok (rankD (t.room (lookI kvs))))
noncomputable def t__law_rank (K : Fg) (n : Nat) : TS := (tSeq (tAsg (tLc (iList K (tCall (spW0 K P_linner) [] E0 (tCons (tVar 0) tNil))) (gName 3) tYes (tCall (spE K (P_lrank K n)) [] E0 (tCons (tVar 3) (tCons (tVar 1) tNil))) [3]) (gName 2))
  (tSeq (tFor (iList K (tVar 2)) (gName 3) (tIfS (tB (tCB (rIsi K) (tCons (tVar 3) (tCons (tC (V.ty "tuple")) tNil)))) (tRet (tVar 3)) tNext))
  (tSeq (tIfS (tTest (tOp rEq (tOp (rIx K) (tVar 0) (tC (V.int 0))) (tC (V.str "name")))) (tRet (tIf (tB (tDIn (tOp (rIx K) (tVar 0) (tC (V.int 1))) (tVar 1))) (tDGet (tVar 1) (tOp (rIx K) (tVar 0) (tC (V.int 1)))) (tTup (tCons (tC (V.str "NoName")) (tCons (tOp (rIx K) (tVar 0) (tC (V.int 1))) tNil))))) tNext)
  (tSeq (tIfS (tTest (tOp rEq (tOp (rIx K) (tVar 0) (tC (V.int 0))) (tC (V.str "carry")))) (tRet (tIf (tTest (tOp rEq (tOp rSubI (tCB (rLenQ K) (tCons (tOp (rIx K) (tOp (rIx K) (tVar 0) (tC (V.int 1))) (tC (V.int 0))) tNil)) (tC (V.int 1))) (tOp (rIx K) (tVar 2) (tC (V.int 0))))) (tCB (rLenQ K) (tCons (tOp (rIx K) (tVar 0) (tC (V.int 1))) tNil)) (tTup (tCons (tC (V.str "OtherRoom")) (tCons (tC (V.str "")) tNil))))) tNext)
  (tRet (tIf (tTest (tOp rEq (tOp (rIx K) (tVar 2) (tC (V.int 0))) (tOp (rIx K) (tVar 2) (tUn rNegI (tC (V.int 1)))))) (tOp (rIx K) (tVar 2) (tC (V.int 0))) (tTup (tCons (tC (V.str "OtherRoom")) (tCons (tC (V.str "")) tNil)))))))))
-- slots of _law_rank: 0 _law_tree_here, 1 _law_ranks, 2 _law_inner_here, 3 _law_one
theorem ln__law_rank {n : Nat} : ∀ es A, P_lrank K (n + 1) es A → es.length = 2 := fun ds A h => by obtain ⟨_, _, rfl, _⟩ := h; rfl
theorem kid_err {kvs : Sd} {t k : Tr} {pre post : List Tr} {r : Ref} (hk : t.kids = pre ++ k :: post) (hp : ∀ y ∈ pre, ∃ i, y.room (lookI kvs) = .ok i) (he : k.room (lookI kvs) = .error r) : t.room (lookI kvs) = .error r := qt_of (by simp (disch := with_unfolding_all
  obtain ⟨r', e1, e2⟩ := room_err (e := r.xw) hk (fun y hy => by
    obtain ⟨i, e⟩ := hp y hy
    exact ⟨.int i, by unfold roomX; rw [e]⟩) (by unfold roomX; rw [he])
  rw [e2]
  cases r with
  | no s =>
    cases r' with
    | no s' =>
      have := congrArg Xw.fs e1
      simp only [Ref.xw, List.cons.injEq, Prod.mk.injEq, V.str.injEq, true_and, and_true] at this
      rw [this]
    | other => have := congrArg Xw.cls e1; exact absurd (show ("NoName" : Str) = "OtherRoom" from this) (by decide)
  | other =>
    cases r' with
    | no s' => have := congrArg Xw.cls e1; exact absurd (show ("NoName" : Str) = "OtherRoom" from this.symm) (by decide)
    | other => rfl
  ) only [↓qt_eq])
theorem rank_tup {r : Except Ref Int} : kitB (tyN (rankD r)) "tuple" = some (match r with | .ok _ => false | .error _ => true) := by
  cases r with
  | ok i => rfl
  | error r => cases r <;> rfl
theorem rd__law_rank {n : Nat} {es A} (h : P_lrank K (n + 1) es A) : SW K cs W0 (t__law_rank K n) (frameE 4 es) (rts0 A) := qt_of (by simp (disch := with_unfolding_all
  obtain ⟨t, kvs, rfl, hw, hd, hn, hi, h⟩ := h
  unfold t__law_rank
  have k2 : t.kids.length ≤ 2 := by cases t <;> first | exact Nat.le_refl 2 | exact Nat.le_succ 1 | exact Nat.zero_le 2
  walk_at "wi"
  refine c_linner hw ⟨_, rfl, lcM (fun k => rankD (k.room (lookI kvs))) (by omega) (unk1 rfl) (fun k hk => ?_) ⟨_, rfl, ?_⟩⟩
  · refine gc_name (by simp) ?_
    refine ew_callE (ma_d (ew_var rfl (ma_r (rw_var rfl (ma_nil ?_)))))
    have kd := Tr.kid_depth hk
    obtain ⟨m, rfl⟩ : ∃ m, n = m + 1 := ⟨n - 1, by omega⟩
    exact ⟨k, kvs, rfl, hw.kid hk, by omega, by omega, hi, rfl⟩
  walk_at "wi"
  refine forP (f := fun k : Tr => rankD (k.room (lookI kvs))) (fun pre G => (∀ k ∈ pre, ∃ i, k.room (lookI kvs) = .ok i) ∧ ∃ x, G = [.d t.enc, .rv (ownR K (sd kvs)), .d (.list (t.kids.map fun k => rankD (k.room (lookI kvs)))), x]) ⟨(fun _ z => nomatch z), _, rfl⟩ ?_ ?_
  · rintro pre k post _ e ⟨hG, x, rfl⟩
    refine gw_name ?_
    walk_at "w"
    refine ⟨_, rank_tup, ?_⟩
    cases er : k.room (lookI kvs) with
    | ok i =>
      walk_at "w"
      refine ⟨fun y hy => ?_, .d (rankD (k.room (lookI kvs))), by rw [er]; rfl⟩
      rcases List.mem_append.mp hy with hy | hy
      · exact hG y hy
      · rw [List.mem_singleton.mp hy]; exact ⟨i, er⟩
    | error r =>
      rw [kid_err e hG er] at h
      walk_at "w"
      exact h
  · rintro _ ⟨hG, x, rfl⟩
    cases t with
    | nm s =>
      walk_at "wi"
      refine cnd_yes rfl ?_
      refine sw_ret (ew_if (tw_B (ew_sdIn ?_)))
      walk_at "w"
      refine ⟨s, kvs, rfl, .inr (.inr rfl), _, rfl, ?_⟩
      cases hl : lookS kvs s with
      | none =>
        refine cnd_f ?_
        walk_at "w"
        have e : Tr.room (lookI kvs) (.nm s) = .error (.no s) := by unfold Tr.room lookI; rw [hl]
        rw [e] at h
        exact h
      | some y =>
        obtain ⟨i, rfl⟩ := hi s y hl
        refine cnd_t ?_
        refine ew_sdGet (kvs := kvs) (.inr (.inr rfl)) ?_
        walk_at "w"
        refine ⟨s, _, rfl, hl, ?_⟩
        have e : Tr.room (lookI kvs) (.nm s) = .ok i := by unfold Tr.room lookI; rw [hl]
        rw [e] at h
        exact h
    | tm i t =>
      obtain ⟨j, e⟩ := hG t (List.mem_singleton.mpr rfl)
      have e2 : Tr.room (lookI kvs) (.tm i t) = .ok j := e
      rw [e2] at h
      show SW K cs W0 _ [.d (Tr.tm i t).enc, .rv (ownR K (sd kvs)), .d (.list [rankD (t.room (lookI kvs))]), x] _
      rw [e]
      walk_at "wi"
      refine cnd_no (by decide) ?_
      walk_at "wi"
      refine cnd_no (by decide) ?_
      walk_at "w"
      refine ⟨_, rfl, ?_⟩
      walk_at "w"
      refine ⟨_, rfl, _, rfl, cnd_d (fun _ => ?_) fun z => absurd rfl z⟩
      walk_at "w"
      exact h
    | tn t =>
      obtain ⟨j, e⟩ := hG t (List.mem_singleton.mpr rfl)
      have e2 : Tr.room (lookI kvs) (.tn t) = .ok j := e
      rw [e2] at h
      show SW K cs W0 _ [.d (Tr.tn t).enc, .rv (ownR K (sd kvs)), .d (.list [rankD (t.room (lookI kvs))]), x] _
      rw [e]
      walk_at "wi"
      refine cnd_no (by decide) ?_
      walk_at "wi"
      refine cnd_no (by decide) ?_
      walk_at "w"
      refine ⟨_, rfl, ?_⟩
      walk_at "w"
      refine ⟨_, rfl, _, rfl, cnd_d (fun _ => ?_) fun z => absurd rfl z⟩
      walk_at "w"
      exact h
    | cy m t =>
      obtain ⟨j, e⟩ := hG t (List.mem_singleton.mpr rfl)
      have e2 : Tr.room (lookI kvs) (.cy m t) = if ((m.headD []).length : Int) - 1 = j then .ok m.length else .error .other := by
        show (match Tr.room _ t with | .ok i => _ | .error e => _) = _
        rw [e]
      rw [e2] at h
      obtain ⟨⟨gl, st, hm, g0, g1, s0, s1⟩, _⟩ := hw
      obtain ⟨r0, rs, rfl⟩ : ∃ r0 rs, m = r0 :: rs := by
        cases m with
        | nil => have := hm.len; simp at this; omega
        | cons a b => exact ⟨a, b, rfl⟩
      show SW K cs W0 _ [.d (Tr.cy (r0 :: rs) t).enc, .rv (ownR K (sd kvs)), .d (.list [rankD (t.room (lookI kvs))]), x] _
      rw [e]
      walk_at "wi"
      refine cnd_no (by decide) ?_
      walk_at "wi"
      refine cnd_yes rfl ?_
      walk_at "w"
      rw [List.length_map]
      have h : A (.ok (rankD (if (r0.length : Int) - 1 = j then (.ok ((r0 :: rs).length : Int) : Except Ref Int) else .error .other))) := h
      refine ⟨_, rfl, _, rfl, ?_⟩
      refine cnd_d (fun z => ?_) fun z => ?_
      · rw [if_pos z] at h
        walk_at "w"
        rw [List.length_map]
        exact h
      · rw [if_neg z] at h
        walk_at "w"
        exact h
    | pr v t u =>
      obtain ⟨i, e⟩ := hG t (by show t ∈ [t, u]; simp)
      obtain ⟨j, e'⟩ := hG u (by show u ∈ [t, u]; simp)
      have e2 : Tr.room (lookI kvs) (.pr v t u) = if i = j then .ok i else .error .other := by
        show (match Tr.room _ t with | .ok i => _ | .error e => _) = _
        rw [e]
        show (match Tr.room _ u with | .ok i => _ | .error e => _) = _
        rw [e']
      rw [e2] at h
      have hv := Tr.pairs_ne hw.1
      show SW K cs W0 _ [.d (Tr.pr v t u).enc, .rv (ownR K (sd kvs)), .d (.list [rankD (t.room (lookI kvs)), rankD (u.room (lookI kvs))]), x] _
      rw [e, e']
      walk_at "wi"
      refine cnd_no hv.1 ?_
      walk_at "wi"
      refine cnd_no hv.2.2.1 ?_
      walk_at "w"
      refine ⟨_, rfl, ?_⟩
      walk_at "w"
      refine ⟨_, rfl, _, rfl, ?_⟩
      refine cnd_d (fun z => ?_) fun z => ?_
      · rw [if_pos z] at h
        walk_at "w"
        exact h
      · rw [if_neg z] at h
        walk_at "w"
        exact h
  ) only [↓qt_eq])
theorem c_lrank {n : Nat} {t : Tr} {kvs : Sd} (hw : t.Wf) (hd : t.depth ≤ n) (hn : n ≤ 11) (hi : Ints kvs) (h : φ (rankD (t.room (lookI kvs)))) : P_lrank K (n + 1) [.d t.enc, .rv (ownR K (sd kvs))] (rE φ ε) := ⟨t, kvs, rfl, hw, hd, hn, hi, h⟩
end


end
end
namespace Law
local macro_rules | `(tactic| walk_at "sd") => `(tactic| first | with_reducible assumption | omega | rfl | decide | assumption | exact Gd.mono (by assumption) (by first | decide | omega) | (simp only [List.length_map, List.length_append, List.length_cons, List.length_nil]; omega) | (simp; done))
local macro_rules | `(tactic| walk_at "ca") => `(tactic| first
  | ((with_reducible apply c_pull); (case h0 => walk_at "sd"); (case h1 => walk_at "sd"); intro _ _ _)
  | ((with_reducible apply c_map); (case h1 => walk_at "sd"); (case h2 => walk_at "sd"); (case l1 => walk_at "sd"); (case l2 => walk_at "sd"); intro _ _))
local macro_rules | `(tactic| walk_at "keo") => `(tactic| first
  | ((with_reducible apply ew_inSO); (case hi => rfl))
  | with_reducible refine ew_add ?_
  | with_reducible refine ew_sub ?_
  | with_reducible refine ew_pow ?_
  | with_reducible refine ew_lt ?_
  | with_reducible refine ew_gt ?_
  | with_reducible refine ew_eq ?_
  | with_reducible refine ew_ne ?_
  | with_reducible refine ew_catL ?_
  | with_reducible refine ew_inS ?_
  | with_reducible refine ew_ix ?_)
local macro_rules | `(tactic| walk_at "keb") => `(tactic| first
  | ((with_reducible apply ew_tupO); (case hi => rfl))
  | with_reducible refine ew_len ?_
  | with_reducible refine ew_list ?_
  | with_reducible refine ew_isi ?_)
local macro_rules | `(tactic| walk_at "kec") => `(tactic| first
  | ((with_reducible apply ew_glob); (case h => assumption))
  | with_reducible refine ew_int ?_
  | with_reducible refine ew_bl ?_
  | with_reducible refine ew_str ?_)
local macro_rules | `(tactic| walk_at "kev") => `(tactic| first
  | ((with_reducible apply ew_var); (case h => rfl)))
local macro_rules | `(tactic| walk_at "kex") => `(tactic| first
  | ((with_reducible apply ew_callB); (case hi => rfl))
  | ((with_reducible apply ew_callWB); (case hi => rfl))
  | with_reducible refine ew_tup2 ?_
  | with_reducible refine ew_tup3 ?_
  | with_reducible refine ew_tup ?_
  | with_reducible refine ew_lst0 ?_
  | with_reducible refine ew_lst1 ?_
  | with_reducible refine ew_lst2 ?_
  | with_reducible refine ew_lst3 ?_
  | with_reducible refine ew_lst ?_
  | with_reducible refine ew_neg ?_
  | with_reducible refine ew_if ?_
  | with_reducible refine ew_cP ?_
  | with_reducible refine ew_c0 ?_
  | with_reducible refine ew_slL ?_
  | with_reducible refine ew_slA ?_
  | with_reducible refine ew_lc ?_
  | with_reducible refine ew_callNW ?_
  | with_reducible refine ew_callN ?_
  | with_reducible refine ew_callN0 ?_)
local macro_rules | `(tactic| walk_at "kew") => `(tactic| first
  | ((with_reducible show EW _ _ _ (tVar _) _ _ _); walk_at "kev")
  | ((with_reducible show EW _ _ _ (tOp _ _ _) _ _ _); walk_at "keo")
  | ((with_reducible show EW _ _ _ (tC _) _ _ _); walk_at "kec")
  | ((with_reducible show EW _ _ _ (tCB _ _) _ _ _); walk_at "keb")
  | walk_at "kex")
local macro_rules | `(tactic| walk_at "ksw") => `(tactic| first
  | ((with_reducible apply sw_app); (case hi => rfl); (case hl => walk_at "sd"))
  | ((with_reducible apply sw_clear); (case hi => rfl))
  | with_reducible refine sw_next ?_
  | with_reducible refine sw_if ?_
  | with_reducible refine sw_ret ?_
  | with_reducible refine sw_for ?_
  | with_reducible refine sw_asg ?_
  | ((with_reducible apply sw_dset); (case hi => rfl))
  | ((with_reducible apply sw_setI); (case hi => rfl))
  | with_reducible refine sw_asgT ?_)
local macro_rules | `(tactic| walk_at "ktw") => `(tactic| first
  | with_reducible refine tw_test ?_
  | with_reducible refine tw_B ?_
  | with_reducible refine tw_yes ?_
  | with_reducible refine tw_not ?_
  | with_reducible refine tw_and ?_
  | with_reducible refine tw_or ?_)
local macro_rules | `(tactic| walk_at "kaw") => `(tactic| first
  | with_reducible refine aw_nil ?_
  | with_reducible refine aw_cons ?_)
local macro_rules | `(tactic| walk_at "kiw") => `(tactic| first
  | with_reducible refine iw_list ?_
  | with_reducible refine iw_rng1 ?_)
local macro_rules | `(tactic| walk_at "kow") => `(tactic| first
  | with_reducible refine ow_none ?_
  | with_reducible refine ow_some ?_)
local macro_rules | `(tactic| walk_at "km") => `(tactic| first
  | ((with_reducible apply x_all); (case h => exact allB_map))
  | ((with_reducible apply x_any); (case h => exact anyB_map))
  | ((with_reducible apply x_sum); (case h => exact sumI_map))
  | ((with_reducible apply cw_elt); (case hm => walk_at "sd"))
  | ((with_reducible apply x1_rng); (case hb => walk_at "sd"))
  | ((with_reducible apply x2_rng); (case hb => walk_at "sd"); (case hc => walk_at "sd"))
  | ((with_reducible apply at0); (case h => rfl))
  | ((with_reducible apply at1); (case h => rfl))
  | ((with_reducible apply xi_it); (case h => rfl))
  | ((with_reducible apply x1_it); (case h => rfl))
  | with_reducible refine sq_nx ?_
  | with_reducible refine sq_rt ?_
  | with_reducible refine lp_nx ?_
  | with_reducible refine lp_rt ?_
  | with_reducible refine gsc_nil ?_
  | with_reducible refine gsc_cons ?_
  | with_reducible refine xi_int ?_
  | with_reducible refine xi_bool ?_
  | with_reducible refine xi_str ?_
  | with_reducible refine xi_tup ?_
  | with_reducible refine xi_list ?_
  | with_reducible refine sc_int ?_
  | with_reducible refine sc_str ?_
  | with_reducible refine x_ol ?_
  | with_reducible refine x_nx ?_
  | with_reducible refine gw_name ?_
  | ((with_reducible refine gc_name ?wa ?_); (case wa => simp))
  | ((with_reducible refine gc_tup ?wa ?_); (case wa => rfl))
  | ((with_reducible refine gw_tup ?wa ?_); (case wa => rfl))
  | with_reducible refine cnd_t ?_
  | with_reducible refine cnd_f ?_
  | with_reducible refine cnd_nt ?_
  | with_reducible refine cnd_nf ?_
  | walk_at "ca"
  | ((with_reducible apply zip_f); (case hx => rfl); (case hy => rfl))
  | ((with_reducible apply zip_t); (case hx => rfl); (case hy => rfl); (case hl => walk_at "sd"))
  | refine gsw_cons ?_
  | refine gsc_cons ?_
  | refine gsw_nil ?_
  | refine gsc_nil ?_
  | with_reducible exact trivial)
local macro_rules | `(tactic| walk_at "s1") => `(tactic| first
  | ((with_reducible show EW _ _ _ _ _ _ _); walk_at "kew")
  | ((with_reducible show SW _ _ _ _ _ _); walk_at "ksw")
  | ((with_reducible show TW _ _ _ _ _ _ _); walk_at "ktw")
  | ((with_reducible show AW _ _ _ _ _ _ _); walk_at "kaw")
  | ((with_reducible show IW _ _ _ _ _ _ _); walk_at "kiw")
  | ((with_reducible show OW _ _ _ _ _ _ _); walk_at "kow")
  | walk_at "km")
local macro_rules | `(tactic| walk_at "w1") => `(tactic| first | ((with_reducible show SW _ _ _ _ _ _); first | walk_at "ksw" | with_reducible refine sw_seqA ?_ | with_reducible refine sw_seqD ?_ | with_reducible refine sw_seqF ?_ | with_reducible refine sw_seqP ?_ | with_reducible refine sw_seqG ?_ | with_reducible refine sw_seqW ?_) | walk_at "s1")
local macro_rules | `(tactic| walk_at "s") => `(tactic| repeat walk_at "s1")
local macro_rules | `(tactic| walk_at "ef") => `(tactic| first
  | with_reducible refine ef_lst0 ?_
  | with_reducible refine ef_lst1 ?_
  | with_reducible refine ef_lst2 ?_
  | with_reducible refine ef_lst3 ?_
  | with_reducible refine ef_lst ?_
  | with_reducible refine ef_lc ?_
  | with_reducible refine ef_list ?_
  | with_reducible refine ef_slL ?_
  | with_reducible refine ef_catL ?_)
local macro_rules | `(tactic| walk_at "wi") => `(tactic| repeat (first | walk_at "w1" | with_reducible refine sw_seq ?_))
local macro_rules | `(tactic| walk_at "w") => `(tactic| repeat walk_at "w1")
def topS (i : Nat) : Stmt := PySem.Challenge.pw_umbrage_k54_parts_and_rooms.main.body.getD i (.Pass ⟨0, 0, 0, 0⟩)
def clsS (i j : Nat) : Stmt := match topS i with | .ClassDef _ _ _ b _ _ _ _ _ _ _ => b.getD j (.Pass ⟨0, 0, 0, 0⟩) | _ => .Pass ⟨0, 0, 0, 0⟩
abbrev si_Missing : Stmt := clsS 3 0
theorem sci_Missing : FnScope ["self", "name", "word"] ["self", "name", "word"] (defScope si_Missing) := ⟨rfl, rfl, rfl, by decide +kernel, rfl, by decide +kernel, by decide +kernel⟩
abbrev si_NoName : Stmt := clsS 4 0
theorem sci_NoName : FnScope ["self", "name"] ["self", "name"] (defScope si_NoName) := ⟨rfl, rfl, rfl, by decide +kernel, rfl, by decide +kernel, by decide +kernel⟩
abbrev si_Unfit : Stmt := clsS 1 0
theorem sci_Unfit : FnScope ["self", "word"] ["self", "word"] (defScope si_Unfit) := ⟨rfl, rfl, rfl, by decide +kernel, rfl, by decide +kernel, by decide +kernel⟩
abbrev si_OtherRoom : Stmt := clsS 2 0
theorem sci_OtherRoom : FnScope ["self"] ["self"] (defScope si_OtherRoom) := ⟨rfl, rfl, rfl, by decide +kernel, rfl, by decide +kernel, by decide +kernel⟩
abbrev s__law_bag : Stmt := topS 14
theorem sc__law_bag : FnScope ["_law_script"] ["_law_script"] (defScope s__law_bag) := ⟨rfl, rfl, rfl, by decide +kernel, rfl, by decide +kernel, by decide +kernel⟩
abbrev s__law_pull : Stmt := topS 15
theorem sc__law_pull : FnScope ["_law_bag_here", "_law_size", "_law_cells", "_law_cell", "_law_spot"] ["_law_bag_here", "_law_size"] (defScope s__law_pull) := ⟨rfl, rfl, rfl, by decide +kernel, rfl, by decide +kernel, by decide +kernel⟩
abbrev s__law_gcd : Stmt := topS 17
theorem sc__law_gcd : FnScope ["_law_one", "_law_other", "_law_kept"] ["_law_one", "_law_other"] (defScope s__law_gcd) := ⟨rfl, rfl, rfl, by decide +kernel, rfl, by decide +kernel, by decide +kernel⟩
abbrev s__law_frac : Stmt := topS 18
theorem sc__law_frac : FnScope ["_law_above", "_law_below", "_law_divisor"] ["_law_above", "_law_below"] (defScope s__law_frac) := ⟨rfl, rfl, rfl, by decide +kernel, rfl, by decide +kernel, by decide +kernel⟩
abbrev s__law_part : Stmt := topS 19
theorem sc__law_part : FnScope ["_law_bag_here"] ["_law_bag_here"] (defScope s__law_part) := ⟨rfl, rfl, rfl, by decide +kernel, rfl, by decide +kernel, by decide +kernel⟩
abbrev s__law_whole_part : Stmt := topS 20
theorem sc__law_whole_part : FnScope ["_law_bag_here"] ["_law_bag_here"] (defScope s__law_whole_part) := ⟨rfl, rfl, rfl, by decide +kernel, rfl, by decide +kernel, by decide +kernel⟩
abbrev s__law_entry : Stmt := topS 22
theorem sc__law_entry : FnScope ["_law_bag_here"] ["_law_bag_here"] (defScope s__law_entry) := ⟨rfl, rfl, rfl, by decide +kernel, rfl, by decide +kernel, by decide +kernel⟩
abbrev s__law_map : Stmt := topS 21
theorem sc__law_map : FnScope ["_law_bag_here", "_law_start", "_law_goal", "_law_row_here", "_law_at"] ["_law_bag_here", "_law_start", "_law_goal"] (defScope s__law_map) := ⟨rfl, rfl, rfl, by decide +kernel, rfl, by decide +kernel, by decide +kernel⟩
abbrev s__law_unit : Stmt := topS 26
theorem sc__law_unit : FnScope ["_law_rank_here", "_law_found", "_law_at", "_law_row_here", "_law_to"] ["_law_rank_here"] (defScope s__law_unit) := ⟨rfl, rfl, rfl, by decide +kernel, rfl, by decide +kernel, by decide +kernel⟩
abbrev s__law_fit_tree : Stmt := topS 25
theorem sc__law_fit_tree : FnScope ["_law_bag_here", "_law_deep", "_law_rank_here", "_law_names", "_law_kind", "_law_word", "_law_first", "_law_fitting", "_law_start", "_law_table", "_law_name", "_law_size"] ["_law_bag_here", "_law_deep", "_law_rank_here", "_law_names"] (defScope s__law_fit_tree) := ⟨rfl, rfl, rfl, by decide +kernel, rfl, by decide +kernel, by decide +kernel⟩
abbrev s__law_inner : Stmt := topS 24
theorem sc__law_inner : FnScope ["_law_tree_here"] ["_law_tree_here"] (defScope s__law_inner) := ⟨rfl, rfl, rfl, by decide +kernel, rfl, by decide +kernel, by decide +kernel⟩
abbrev s__law_parts : Stmt := topS 27
theorem sc__law_parts : FnScope ["_law_tree_here", "_law_found", "_law_inner_here"] ["_law_tree_here"] (defScope s__law_parts) := ⟨rfl, rfl, rfl, by decide +kernel, rfl, by decide +kernel, by decide +kernel⟩
abbrev s__law_tree : Stmt := topS 23
theorem sc__law_tree : FnScope ["_law_bag_here", "_law_deep", "_law_names", "_law_kind", "_law_word", "_law_number", "_law_table"] ["_law_bag_here", "_law_deep", "_law_names"] (defScope s__law_tree) := ⟨rfl, rfl, rfl, by decide +kernel, rfl, by decide +kernel, by decide +kernel⟩
abbrev s__law_like : Stmt := topS 16
theorem sc__law_like : FnScope ["_law_found", "_law_due", "_law_at"] ["_law_found", "_law_due"] (defScope s__law_like) := ⟨rfl, rfl, rfl, by decide +kernel, rfl, by decide +kernel, by decide +kernel⟩
abbrev s_row_of : Stmt := topS 7
theorem sc_row_of : FnScope ["tree"] ["tree"] (defScope s_row_of) := ⟨rfl, rfl, rfl, by decide +kernel, rfl, by decide +kernel, by decide +kernel⟩
abbrev s_inner_of : Stmt := topS 6
theorem sc_inner_of : FnScope ["tree", "word", "rest"] ["tree"] (defScope s_inner_of) := ⟨rfl, rfl, rfl, by decide +kernel, rfl, by decide +kernel, by decide +kernel⟩
abbrev s_parts_of : Stmt := topS 8
theorem sc_parts_of : FnScope ["tree", "found", "inner"] ["tree"] (defScope s_parts_of) := ⟨rfl, rfl, rfl, by decide +kernel, rfl, by decide +kernel, by decide +kernel⟩
abbrev s_rows_of : Stmt := topS 12
theorem sc_rows_of : FnScope ["tree", "one"] ["tree"] (defScope s_rows_of) := ⟨rfl, rfl, rfl, by decide +kernel, rfl, by decide +kernel, by decide +kernel⟩
abbrev s_names_in : Stmt := topS 9
theorem sc_names_in : FnScope ["tree", "found", "one"] ["tree"] (defScope s_names_in) := ⟨rfl, rfl, rfl, by decide +kernel, rfl, by decide +kernel, by decide +kernel⟩
abbrev s__law_row : Stmt := topS 28
theorem sc__law_row : FnScope ["_law_tree_here"] ["_law_tree_here"] (defScope s__law_row) := ⟨rfl, rfl, rfl, by decide +kernel, rfl, by decide +kernel, by decide +kernel⟩
abbrev s_room_of : Stmt := topS 10
theorem sc_room_of : FnScope ["tree", "rooms", "inner", "one"] ["tree", "rooms"] (defScope s_room_of) := ⟨rfl, rfl, rfl, by decide +kernel, rfl, by decide +kernel, by decide +kernel⟩
abbrev s__law_told : Stmt := topS 30
theorem sc__law_told : FnScope ["_law_tree_here", "_law_ranks", "why"] ["_law_tree_here", "_law_ranks"] (defScope s__law_told) := ⟨rfl, rfl, rfl, by decide +kernel, rfl, by decide +kernel, by decide +kernel⟩
abbrev s__law_rank : Stmt := topS 29
theorem sc__law_rank : FnScope ["_law_tree_here", "_law_ranks", "_law_inner_here", "_law_one"] ["_law_tree_here", "_law_ranks"] (defScope s__law_rank) := ⟨rfl, rfl, rfl, by decide +kernel, rfl, by decide +kernel, by decide +kernel⟩
abbrev s_law : Stmt := topS 31
theorem sc_law : FnScope ["_law_script", "_law_bag_here", "_law_names", "_law_ranks", "_law_kept", "_law_turn", "_law_tree_here", "_law_parts_here", "_law_used", "_law_one"] ["_law_script"] (defScope s_law) := ⟨rfl, rfl, rfl, by decide +kernel, rfl, by decide +kernel, by decide +kernel⟩
set_option genInjectivity false
set_option genSizeOf false
structure TX (K : Fg) (mg : Str → Option Value) where
  cs : Cs
  ox_Missing : OxK K (cs "Missing")
  kC_Missing : PySem.W.keepIn K (.ref (cs "Missing")) = true
  fI_Missing : Addr
  dI_Missing : FuncData
  FI_Missing : FunD K "__init__" "Missing.__init__" (defArgs si_Missing) (defBody si_Missing) (defScope si_Missing) [V.str "Missing"] [] fI_Missing dI_Missing
  i_Missing : PySem.W.findIn K (.ref (cs "Missing")) "__init__" = some (some (.ref fI_Missing))
  ti_Missing : PySem.W.typeIn K (.ref fI_Missing) = some (.type "function")
  bi_Missing : Binds K dI_Missing ["self", "name", "word"] []
  g_Missing : mg "Missing" = some (.ref (cs "Missing"))
  xf_Missing : XfC K (cs "Missing")
  nw_Missing_name : PySem.W.findIn K (.ref (cs "Missing")) "name" = some none
  nw_Missing_word : PySem.W.findIn K (.ref (cs "Missing")) "word" = some none
  cf_Missing : ClsF K cs "Missing" ["name", "word"]
  rd_Missing : PySem.W.readsIn K (cs "Missing") (.type "type") = true
  ga_Missing : PySem.W.specialIn K (.ref (cs "Missing")) "__getattribute__" = some (some (.builtin "type.__getattribute__"))
  fc_Missing : PySem.W.findCls K (.ref (cs "Missing")) (.type "type") "__init__" = some (.val (.ref fI_Missing))
  ox_NoName : OxK K (cs "NoName")
  kC_NoName : PySem.W.keepIn K (.ref (cs "NoName")) = true
  fI_NoName : Addr
  dI_NoName : FuncData
  FI_NoName : Fun K "__init__" "NoName.__init__" si_NoName fI_NoName dI_NoName
  i_NoName : PySem.W.findIn K (.ref (cs "NoName")) "__init__" = some (some (.ref fI_NoName))
  ti_NoName : PySem.W.typeIn K (.ref fI_NoName) = some (.type "function")
  bi_NoName : Binds K dI_NoName ["self", "name"] []
  g_NoName : mg "NoName" = some (.ref (cs "NoName"))
  xf_NoName : XfC K (cs "NoName")
  nw_NoName_name : PySem.W.findIn K (.ref (cs "NoName")) "name" = some none
  nw_NoName_word : PySem.W.findIn K (.ref (cs "NoName")) "word" = some none
  cf_NoName : ClsF K cs "NoName" ["name", "word"]
  ox_Unfit : OxK K (cs "Unfit")
  kC_Unfit : PySem.W.keepIn K (.ref (cs "Unfit")) = true
  fI_Unfit : Addr
  dI_Unfit : FuncData
  FI_Unfit : FunD K "__init__" "Unfit.__init__" (defArgs si_Unfit) (defBody si_Unfit) (defScope si_Unfit) [V.str "Unfit"] [] fI_Unfit dI_Unfit
  i_Unfit : PySem.W.findIn K (.ref (cs "Unfit")) "__init__" = some (some (.ref fI_Unfit))
  ti_Unfit : PySem.W.typeIn K (.ref fI_Unfit) = some (.type "function")
  bi_Unfit : Binds K dI_Unfit ["self", "word"] []
  g_Unfit : mg "Unfit" = some (.ref (cs "Unfit"))
  xf_Unfit : XfC K (cs "Unfit")
  nw_Unfit_word : PySem.W.findIn K (.ref (cs "Unfit")) "word" = some none
  cf_Unfit : ClsF K cs "Unfit" ["word"]
  rd_Unfit : PySem.W.readsIn K (cs "Unfit") (.type "type") = true
  ga_Unfit : PySem.W.specialIn K (.ref (cs "Unfit")) "__getattribute__" = some (some (.builtin "type.__getattribute__"))
  fc_Unfit : PySem.W.findCls K (.ref (cs "Unfit")) (.type "type") "__init__" = some (.val (.ref fI_Unfit))
  ox_OtherRoom : OxK K (cs "OtherRoom")
  kC_OtherRoom : PySem.W.keepIn K (.ref (cs "OtherRoom")) = true
  fI_OtherRoom : Addr
  dI_OtherRoom : FuncData
  FI_OtherRoom : Fun K "__init__" "OtherRoom.__init__" si_OtherRoom fI_OtherRoom dI_OtherRoom
  i_OtherRoom : PySem.W.findIn K (.ref (cs "OtherRoom")) "__init__" = some (some (.ref fI_OtherRoom))
  ti_OtherRoom : PySem.W.typeIn K (.ref fI_OtherRoom) = some (.type "function")
  bi_OtherRoom : Binds K dI_OtherRoom ["self"] []
  g_OtherRoom : mg "OtherRoom" = some (.ref (cs "OtherRoom"))
  xf_OtherRoom : XfC K (cs "OtherRoom")
  nw_OtherRoom_word : PySem.W.findIn K (.ref (cs "OtherRoom")) "word" = some none
  cf_OtherRoom : ClsF K cs "OtherRoom" ["word"]
  em_NoName_NoName : PySem.W.exmOne K (.ref (cs "NoName")) (.ref (cs "NoName")) = some true
  em_OtherRoom_NoName : PySem.W.exmOne K (.ref (cs "OtherRoom")) (.ref (cs "NoName")) = some false
  em_OtherRoom_OtherRoom : PySem.W.exmOne K (.ref (cs "OtherRoom")) (.ref (cs "OtherRoom")) = some true
  a__law_bag : Addr
  d__law_bag : FuncData
  F__law_bag : Fun K "_law_bag" "_law_bag" s__law_bag a__law_bag d__law_bag
  g__law_bag : mg "_law_bag" = some (.ref a__law_bag)
  b__law_bag : Binds K d__law_bag ["_law_script"] []
  a__law_pull : Addr
  d__law_pull : FuncData
  F__law_pull : Fun K "_law_pull" "_law_pull" s__law_pull a__law_pull d__law_pull
  g__law_pull : mg "_law_pull" = some (.ref a__law_pull)
  b__law_pull : Binds K d__law_pull ["_law_bag_here", "_law_size"] []
  a__law_gcd : Addr
  d__law_gcd : FuncData
  F__law_gcd : Fun K "_law_gcd" "_law_gcd" s__law_gcd a__law_gcd d__law_gcd
  g__law_gcd : mg "_law_gcd" = some (.ref a__law_gcd)
  b__law_gcd : Binds K d__law_gcd ["_law_one", "_law_other"] []
  a__law_frac : Addr
  d__law_frac : FuncData
  F__law_frac : Fun K "_law_frac" "_law_frac" s__law_frac a__law_frac d__law_frac
  g__law_frac : mg "_law_frac" = some (.ref a__law_frac)
  b__law_frac : Binds K d__law_frac ["_law_above", "_law_below"] []
  a__law_part : Addr
  d__law_part : FuncData
  F__law_part : Fun K "_law_part" "_law_part" s__law_part a__law_part d__law_part
  g__law_part : mg "_law_part" = some (.ref a__law_part)
  b__law_part : Binds K d__law_part ["_law_bag_here"] []
  a__law_whole_part : Addr
  d__law_whole_part : FuncData
  F__law_whole_part : Fun K "_law_whole_part" "_law_whole_part" s__law_whole_part a__law_whole_part d__law_whole_part
  g__law_whole_part : mg "_law_whole_part" = some (.ref a__law_whole_part)
  b__law_whole_part : Binds K d__law_whole_part ["_law_bag_here"] []
  a__law_entry : Addr
  d__law_entry : FuncData
  F__law_entry : Fun K "_law_entry" "_law_entry" s__law_entry a__law_entry d__law_entry
  g__law_entry : mg "_law_entry" = some (.ref a__law_entry)
  b__law_entry : Binds K d__law_entry ["_law_bag_here"] []
  a__law_map : Addr
  d__law_map : FuncData
  F__law_map : Fun K "_law_map" "_law_map" s__law_map a__law_map d__law_map
  g__law_map : mg "_law_map" = some (.ref a__law_map)
  b__law_map : Binds K d__law_map ["_law_bag_here", "_law_start", "_law_goal"] []
  a__law_unit : Addr
  d__law_unit : FuncData
  F__law_unit : Fun K "_law_unit" "_law_unit" s__law_unit a__law_unit d__law_unit
  g__law_unit : mg "_law_unit" = some (.ref a__law_unit)
  b__law_unit : Binds K d__law_unit ["_law_rank_here"] []
  a__law_fit_tree : Addr
  d__law_fit_tree : FuncData
  F__law_fit_tree : Fun K "_law_fit_tree" "_law_fit_tree" s__law_fit_tree a__law_fit_tree d__law_fit_tree
  g__law_fit_tree : mg "_law_fit_tree" = some (.ref a__law_fit_tree)
  b__law_fit_tree : Binds K d__law_fit_tree ["_law_bag_here", "_law_deep", "_law_rank_here", "_law_names"] []
  a__law_inner : Addr
  d__law_inner : FuncData
  F__law_inner : Fun K "_law_inner" "_law_inner" s__law_inner a__law_inner d__law_inner
  g__law_inner : mg "_law_inner" = some (.ref a__law_inner)
  b__law_inner : Binds K d__law_inner ["_law_tree_here"] []
  a__law_parts : Addr
  d__law_parts : FuncData
  F__law_parts : Fun K "_law_parts" "_law_parts" s__law_parts a__law_parts d__law_parts
  g__law_parts : mg "_law_parts" = some (.ref a__law_parts)
  b__law_parts : Binds K d__law_parts ["_law_tree_here"] []
  a__law_tree : Addr
  d__law_tree : FuncData
  F__law_tree : Fun K "_law_tree" "_law_tree" s__law_tree a__law_tree d__law_tree
  g__law_tree : mg "_law_tree" = some (.ref a__law_tree)
  b__law_tree : Binds K d__law_tree ["_law_bag_here", "_law_deep", "_law_names"] []
  a__law_like : Addr
  d__law_like : FuncData
  F__law_like : Fun K "_law_like" "_law_like" s__law_like a__law_like d__law_like
  g__law_like : mg "_law_like" = some (.ref a__law_like)
  b__law_like : Binds K d__law_like ["_law_found", "_law_due"] []
  a_row_of : Addr
  d_row_of : FuncData
  F_row_of : Fun K "row_of" "row_of" s_row_of a_row_of d_row_of
  g_row_of : mg "row_of" = some (.ref a_row_of)
  b_row_of : Binds K d_row_of ["tree"] []
  a_inner_of : Addr
  d_inner_of : FuncData
  F_inner_of : Fun K "inner_of" "inner_of" s_inner_of a_inner_of d_inner_of
  g_inner_of : mg "inner_of" = some (.ref a_inner_of)
  b_inner_of : Binds K d_inner_of ["tree"] []
  a_parts_of : Addr
  d_parts_of : FuncData
  F_parts_of : Fun K "parts_of" "parts_of" s_parts_of a_parts_of d_parts_of
  g_parts_of : mg "parts_of" = some (.ref a_parts_of)
  b_parts_of : Binds K d_parts_of ["tree"] []
  a_rows_of : Addr
  d_rows_of : FuncData
  F_rows_of : Fun K "rows_of" "rows_of" s_rows_of a_rows_of d_rows_of
  g_rows_of : mg "rows_of" = some (.ref a_rows_of)
  b_rows_of : Binds K d_rows_of ["tree"] []
  a_names_in : Addr
  d_names_in : FuncData
  F_names_in : Fun K "names_in" "names_in" s_names_in a_names_in d_names_in
  g_names_in : mg "names_in" = some (.ref a_names_in)
  b_names_in : Binds K d_names_in ["tree"] []
  a__law_row : Addr
  d__law_row : FuncData
  F__law_row : Fun K "_law_row" "_law_row" s__law_row a__law_row d__law_row
  g__law_row : mg "_law_row" = some (.ref a__law_row)
  b__law_row : Binds K d__law_row ["_law_tree_here"] []
  a_room_of : Addr
  d_room_of : FuncData
  F_room_of : Fun K "room_of" "room_of" s_room_of a_room_of d_room_of
  g_room_of : mg "room_of" = some (.ref a_room_of)
  b_room_of : Binds K d_room_of ["tree", "rooms"] []
  a__law_told : Addr
  d__law_told : FuncData
  F__law_told : Fun K "_law_told" "_law_told" s__law_told a__law_told d__law_told
  g__law_told : mg "_law_told" = some (.ref a__law_told)
  b__law_told : Binds K d__law_told ["_law_tree_here", "_law_ranks"] []
  a__law_rank : Addr
  d__law_rank : FuncData
  F__law_rank : Fun K "_law_rank" "_law_rank" s__law_rank a__law_rank d__law_rank
  g__law_rank : mg "_law_rank" = some (.ref a__law_rank)
  b__law_rank : Binds K d__law_rank ["_law_tree_here", "_law_ranks"] []
  n_abs : mg "abs" = none
  n_all : mg "all" = none
  n_bool : mg "bool" = none
  n_dict : mg "dict" = none
  n_int : mg "int" = none
  n_isinstance : mg "isinstance" = none
  n_len : mg "len" = none
  n_list : mg "list" = none
  n_max : mg "max" = none
  n_range : mg "range" = none
  n_str : mg "str" = none
  n_tuple : mg "tuple" = none
section
variable {Pg : Program} {w : World} {K : Fg} {mg : Str → Option Value} {base : Heap} {cs : Cs} {gs : Gs}
theorem ok_Missing (T : TX K mg) : FnOk Pg w K mg base CX0 1 T.fI_Missing T.dI_Missing ["self", "name", "word"] (spIn K ["name", "word"] gMs) :=
  okMs T.FI_Missing sci_Missing (fun cdv A outer sh H E => (pss_cons (ps_ox (pv 0) (pv 1)) (pss_one (ps_ox (pv 0) (pv 2)))))
theorem ok_NoName (T : TX K mg) : FnOk Pg w K mg base CX0 2 T.fI_NoName T.dI_NoName ["self", "name"] (spIn K ["name", "word"] (gNw "NoName")) :=
  okNw "NoName" T.FI_NoName sci_NoName (fun cdv A outer sh H E hr => (pss_one (ps_expr (pe_up (by rfl) T.g_Missing T.rd_Missing T.ga_Missing T.fc_Missing T.FI_Missing.kp (ok_Missing T) (hr.mono (by decide)) T.bi_Missing .nil pass0 (pa_cons (pv 0) (pa_cons (pv 1) (pa_cons pe_str pa_nil)))))))
theorem ok_Unfit (T : TX K mg) : FnOk Pg w K mg base CX0 1 T.fI_Unfit T.dI_Unfit ["self", "word"] (spIn K ["word"] gWd) :=
  okWd T.FI_Unfit sci_Unfit (fun cdv A outer sh H E => (pss_one (ps_ox (pv 0) (pv 1))))
theorem ok_OtherRoom (T : TX K mg) : FnOk Pg w K mg base CX0 2 T.fI_OtherRoom T.dI_OtherRoom ["self"] (spIn K ["word"] (gCw "OtherRoom")) :=
  okSub "OtherRoom" T.FI_OtherRoom sci_OtherRoom (fun cdv A outer sh H E hr => (pss_one (ps_expr (pe_up (by rfl) T.g_Unfit T.rd_Unfit T.ga_Unfit T.fc_Unfit T.FI_Unfit.kp (ok_Unfit T) (hr.mono (by decide)) T.bi_Unfit .nil pass0 (pa_cons (pv 0) (pa_cons pe_str pa_nil))))))
theorem ok__law_bag (T : TX K mg) : FnOk Pg w K mg base CX0 1 T.a__law_bag T.d__law_bag ["_law_script"] (spBag K) := qt_of (by simp (disch := with_unfolding_all
  refine T.F__law_bag.ok sc__law_bag (fun vs H Q E h => ?_) (fun cdv A outer sh H vs Q E hr h => ?_)
  · obtain ⟨W, ns, _, hd, _⟩ := h
    exact dpa_len hd
  · obtain ⟨W, ns, hW, hd, hl, q⟩ := h
    obtain ⟨v, rfl, dv⟩ := dp1 hd
    exact ⟨t__law_bag K, (pss_one (ps_ret (pe_lst (pa_cons (pe_callTy c_list (by rfl) T.n_list (by decide +kernel) (pa_cons (pe_slice sl_list (pv 0) po_none (po_some pe_int)) pa_nil)) (pa_cons pe_int (pa_cons pe_int pa_nil)))))), rd__law_bag dv hl q⟩
  ) only [↓qt_eq])
theorem ok__law_pull (T : TX K mg) : FnOk Pg w K mg base CX0 1 T.a__law_pull T.d__law_pull ["_law_bag_here", "_law_size"] (spB K P_pull) := qt_of (by simp (disch := with_unfolding_all
  refine T.F__law_pull.ok sc__law_pull (fun vs H Q E h => ?_) (fun cdv A outer sh H vs Q E hr h => ?_)
  · obtain ⟨W, b, c, us, s, ds, r, s', _, rfl, _, hd, hp, _⟩ := h
    rw [List.length_cons, dpa_len hd]
    exact ln__law_pull s ds r s' hp
  · obtain ⟨W, b, c, us, s, ds, r, s', hW, rfl, hB, hd, ⟨n, rfl, h0, h1, rfl, rfl⟩, q⟩ := h
    obtain ⟨v, rfl, dv⟩ := dp1 hd
    cases dv
    exact ⟨t__law_pull K, (pss_cons (ps_set (i := 2) sc__law_pull.nd rfl (by first | exact Or.inl rfl | exact Or.inr rfl) (pe_ix ix_seq (pv 0) pe_int (fun _ _ => rfl)))
      (pss_cons (ps_set (i := 3) sc__law_pull.nd rfl (by first | exact Or.inl rfl | exact Or.inr rfl) pe_int)
      (pss_cons (ps_if (pt_cmpR op_gt (pe_callB c_len (by rfl) T.n_len PySem.boot_len (pa_cons (pv 2) pa_nil)) pe_int (nomark _)) (pss_cons (ps_set (i := 4) sc__law_pull.nd rfl (by first | exact Or.inl rfl | exact Or.inr rfl) (pe_op op_modX (pe_ix ix_seq (pv 0) pe_int (fun _ _ => rfl)) (pe_callB c_len (by rfl) T.n_len PySem.boot_len (pa_cons (pv 2) pa_nil))))
      (pss_cons (ps_set (i := 3) sc__law_pull.nd rfl (by first | exact Or.inl rfl | exact Or.inr rfl) (pe_ix ix_seq (pv 2) (pv 4) (fun _ _ => rfl)))
      (pss_one (ps_if (pt_cmpR op_ge (pe_callB c_abs (by rfl) T.n_abs (by decide +kernel) (pa_cons (pv 3) pa_nil)) (pe_op op_pow pe_int pe_int) (nomark _)) (pss_cons (ps_asg (pe_op op_fdivX (pv 3) (pv 1)) (pg_sub (pv 2) (pv 4) set_list))
      (pss_one (ps_ret (pe_op op_modX (pv 3) (pv 1))))) pss_nil)))) pss_nil)
      (pss_cons (ps_asg (pe_op op_add (pe_ix ix_seq (pv 0) pe_int (fun _ _ => rfl)) pe_int) (pg_sub (pv 0) pe_int set_list))
      (pss_cons (ps_asg (pe_op op_modX (pe_op op_add (pe_op op_add (pe_op op_mulW (pe_ix ix_seq (pv 0) pe_int (fun _ _ => rfl)) pe_int) (pe_op op_modX (pv 3) pe_int)) (pe_ix ix_seq (pv 0) pe_int (fun _ _ => rfl))) pe_int) (pg_sub (pv 0) pe_int set_list))
      (pss_one (ps_ret (pe_op op_modX (pe_op op_fdivX (pe_op op_modX (pe_op op_add (pe_op op_mulW (pe_ix ix_seq (pv 0) pe_int (fun _ _ => rfl)) pe_int) (pe_op op_fdivX (pe_ix ix_seq (pv 0) pe_int (fun _ _ => rfl)) pe_int)) pe_int) pe_int) (pv 1))))))))), rd__law_pull hB h0 h1 q⟩
  ) only [↓qt_eq])
theorem ok__law_gcd (T : TX K mg) : FnOk Pg w K mg base CX0 1 T.a__law_gcd T.d__law_gcd ["_law_one", "_law_other"] (spP K P_gcd) :=
  okP T.F__law_gcd sc__law_gcd ln__law_gcd (fun ds r h cdv A outer sh H E hr => ⟨t__law_gcd K, (pss_cons (ps_set (i := 0) sc__law_gcd.nd rfl (by first | exact Or.inl rfl | exact Or.inr rfl) (pe_callB c_abs (by rfl) T.n_abs (by decide +kernel) (pa_cons (pv 0) pa_nil)))
      (pss_cons (ps_set (i := 1) sc__law_gcd.nd rfl (by first | exact Or.inl rfl | exact Or.inr rfl) (pe_callB c_abs (by rfl) T.n_abs (by decide +kernel) (pa_cons (pv 1) pa_nil)))
      (pss_cons (ps_while PassesOwn.never (pt_cmpR op_gt (pv 1) pe_int (nomark _)) (pss_cons (ps_set (i := 2) sc__law_gcd.nd rfl (by first | exact Or.inl rfl | exact Or.inr rfl) (pv 1))
      (pss_cons (ps_set (i := 1) sc__law_gcd.nd rfl (by first | exact Or.inl rfl | exact Or.inr rfl) (pe_op op_modX (pv 0) (pv 1)))
      (pss_one (ps_set (i := 0) sc__law_gcd.nd rfl (by first | exact Or.inl rfl | exact Or.inr rfl) (pv 2))))))
      (pss_one (ps_ret (pe_callB (c_max2 rfl) (by rfl) T.n_max (by decide +kernel) (pa_cons pe_int (pa_cons (pv 0) pa_nil)))))))), rd__law_gcd h⟩)
theorem ok__law_frac (T : TX K mg) : FnOk Pg w K mg base CX0 2 T.a__law_frac T.d__law_frac ["_law_above", "_law_below"] (spP K P_frac) :=
  okP T.F__law_frac sc__law_frac ln__law_frac (fun ds r h cdv A outer sh H E hr => ⟨t__law_frac K, (pss_cons (ps_set (i := 2) sc__law_frac.nd rfl (by first | exact Or.inl rfl | exact Or.inr rfl) (pe_call (ok__law_gcd T) (hr.mono (by decide)) (by rfl) T.g__law_gcd T.F__law_gcd.kp T.b__law_gcd .nil pass0 (pa_cons (pv 0) (pa_cons (pv 1) pa_nil))))
      (pss_cons (ps_if (pt_cmpR op_lt (pv 1) pe_int (nomark _)) (pss_one (ps_set (i := 2) sc__law_frac.nd rfl (by first | exact Or.inl rfl | exact Or.inr rfl) (pe_un un_neg (pv 2)))) pss_nil)
      (pss_one (ps_ret (pe_tup (pa_cons (pe_op op_fdivX (pv 0) (pv 2)) (pa_cons (pe_op op_fdivX (pv 1) (pv 2)) pa_nil))))))), rd__law_frac h⟩)
theorem ok__law_part (T : TX K mg) : FnOk Pg w K mg base CX0 3 T.a__law_part T.d__law_part ["_law_bag_here"] (spB K P_part) :=
  okB T.F__law_part sc__law_part ln__law_part (fun s ds r s' h ok cdv A outer sh H E hr => ⟨t__law_part K, (pss_one (ps_ret (pe_call (ok__law_frac T) (hr.mono (by decide)) (by rfl) T.g__law_frac T.F__law_frac.kp T.b__law_frac .nil pass0 (pa_cons (pe_op op_sub (pe_call (ok__law_pull T) (hr.mono (by decide)) (by rfl) T.g__law_pull T.F__law_pull.kp T.b__law_pull .nil pass0 (pa_cons (pv 0) (pa_cons pe_int pa_nil))) pe_int) (pa_cons (pe_ix ix_seq (pe_lst (pa_cons pe_int (pa_cons pe_int (pa_cons pe_int (pa_cons pe_int pa_nil))))) (pe_call (ok__law_pull T) (hr.mono (by decide)) (by rfl) T.g__law_pull T.F__law_pull.kp T.b__law_pull .nil pass0 (pa_cons (pv 0) (pa_cons pe_int pa_nil))) (fun _ _ => rfl)) pa_nil))))), rd__law_part h ok⟩)
theorem ok__law_whole_part (T : TX K mg) : FnOk Pg w K mg base CX0 2 T.a__law_whole_part T.d__law_whole_part ["_law_bag_here"] (spB K P_wholePart) :=
  okB T.F__law_whole_part sc__law_whole_part ln__law_whole_part (fun s ds r s' h ok cdv A outer sh H E hr => ⟨t__law_whole_part K, (pss_one (ps_ret (pe_tup (pa_cons (pe_op op_sub (pe_call (ok__law_pull T) (hr.mono (by decide)) (by rfl) T.g__law_pull T.F__law_pull.kp T.b__law_pull .nil pass0 (pa_cons (pv 0) (pa_cons pe_int pa_nil))) pe_int) (pa_cons pe_int pa_nil))))), rd__law_whole_part h ok⟩)
theorem ok__law_entry (T : TX K mg) : FnOk Pg w K mg base CX0 4 T.a__law_entry T.d__law_entry ["_law_bag_here"] (spB K P_entry) :=
  okB T.F__law_entry sc__law_entry ln__law_entry (fun s ds r s' h ok cdv A outer sh H E hr => ⟨t__law_entry K, (pss_one (ps_ret (pe_ifExp (pt_cmpR op_eq (pe_call (ok__law_pull T) (hr.mono (by decide)) (by rfl) T.g__law_pull T.F__law_pull.kp T.b__law_pull .nil pass0 (pa_cons (pv 0) (pa_cons pe_int pa_nil))) pe_int (nomark _)) (pe_call (ok__law_part T) (hr.mono (by decide)) (by rfl) T.g__law_part T.F__law_part.kp T.b__law_part .nil pass0 (pa_cons (pv 0) pa_nil)) (pe_call (ok__law_whole_part T) (hr.mono (by decide)) (by rfl) T.g__law_whole_part T.F__law_whole_part.kp T.b__law_whole_part .nil pass0 (pa_cons (pv 0) pa_nil))))), rd__law_entry h ok⟩)
theorem ok__law_map (T : TX K mg) : FnOk Pg w K mg base CX0 5 T.a__law_map T.d__law_map ["_law_bag_here", "_law_start", "_law_goal"] (spB K P_map) :=
  okB T.F__law_map sc__law_map ln__law_map (fun s ds r s' h ok cdv A outer sh H E hr => ⟨t__law_map K, (pss_one (ps_ret (pe_callTy c_tuple (by rfl) T.n_tuple (by decide +kernel) (pa_cons (pe_lc (own := [("_law_row_here", 3)]) (g := (gName 3)) (tt := tYes) rfl sc__law_map.nd (pi_range1 (by rfl) T.n_range (pa_cons (pv 2) pa_nil)) (blkOk_by (own := [("_law_row_here", 3)]) (N := ["_law_bag_here", "_law_start", "_law_goal", "_law_row_here", "_law_at"]) (sc := defScope s__law_map) (by decide +kernel)) (fun _ _ _ _ _ => (pg_name (i := 3) sc__law_map.nd rfl (by first | exact Or.inl rfl | exact Or.inr rfl))) (fun _ _ _ _ _ => pts_nil) (fun _ _ _ _ _ => (pe_callTy c_tuple (by rfl) T.n_tuple (by decide +kernel) (pa_cons (pe_lc (own := [("_law_at", 4)]) (g := (gName 4)) (tt := tYes) rfl sc__law_map.nd (pi_range1 (by rfl) T.n_range (pa_cons (pe_op op_add (pv 1) pe_int) pa_nil)) (blkOk_by (own := [("_law_at", 4)]) (N := ["_law_bag_here", "_law_start", "_law_goal", "_law_row_here", "_law_at"]) (sc := ({ kind := PySem.ScopeKind.function, names := [ (PySem.Str.ofString ".0", PySem.NameKind.local), (PySem.Str.ofString "_law_row_here", PySem.NameKind.local), (PySem.Str.ofString "tuple", PySem.NameKind.globalImplicit), (PySem.Str.ofString "range", PySem.NameKind.globalImplicit), (PySem.Str.ofString "_law_bag_here", PySem.NameKind.cell), (PySem.Str.ofString "_law_start", PySem.NameKind.cell)], isGenerator := false, isCoroutine := false, more := [] : PySem.Scope })) (by decide +kernel)) (fun _ _ _ _ _ => (pg_name (i := 4) sc__law_map.nd rfl (by first | exact Or.inl rfl | exact Or.inr rfl))) (fun _ _ _ _ _ => pts_nil) (fun _ _ _ _ _ => (pe_call (ok__law_entry T) (hr.mono (by decide)) (by rfl) T.g__law_entry T.F__law_entry.kp T.b__law_entry .nil pass0 (pa_cons (pv 0) pa_nil)))) pa_nil)))) pa_nil)))), rd__law_map h ok⟩)
theorem ok__law_unit (T : TX K mg) : FnOk Pg w K mg base CX0 1 T.a__law_unit T.d__law_unit ["_law_rank_here"] (spW0 K P_lunit) :=
  okW T.cs T.F__law_unit sc__law_unit ln__law_unit (fun ds A h cdv Ar outer sh H E hr => ⟨t__law_unit K, (pss_cons (ps_set (i := 1) sc__law_unit.nd rfl (by first | exact Or.inl rfl | exact Or.inr rfl) (pe_lst pa_nil))
      (pss_cons (ps_for PassesOwn.never rfl (pi_range1 (by rfl) T.n_range (pa_cons (pv 0) pa_nil)) (pg_name (i := 2) sc__law_unit.nd rfl (by first | exact Or.inl rfl | exact Or.inr rfl)) (pss_cons (ps_setLc (i := 3) (own := [("_law_to", 4)]) (g := (gName 4)) (tt := tYes) rfl sc__law_unit.nd rfl rfl (sw_true rfl rfl rfl (by decide +kernel)) (pi_range1 (by rfl) T.n_range (pa_cons (pe_op op_addI (pv 0) pe_int) pa_nil)) (blkOk_by (own := [("_law_to", 4)]) (N := ["_law_rank_here", "_law_found", "_law_at", "_law_row_here", "_law_to"]) (sc := defScope s__law_unit) (by decide +kernel)) (fun _ _ _ _ _ => (pg_name (i := 4) sc__law_unit.nd rfl (by first | exact Or.inl rfl | exact Or.inr rfl))) (fun _ _ _ _ _ => pts_nil) (fun _ _ _ _ _ => (pe_tup (pa_cons pe_int (pa_cons pe_int pa_nil)))))
      (pss_cons (ps_asg (pe_tup (pa_cons pe_int (pa_cons pe_int pa_nil))) (pg_sub (pv 3) (pv 2) set_list))
      (pss_one (ps_expr (pe_bm PySem.F.plainAttrs_list PySem.F.slot_list_append PySem.F.type_list_append mt_append (pv 1) (pa_cons (pe_callTy c_tuple (by rfl) T.n_tuple (by decide +kernel) (pa_cons (pv 3) pa_nil)) pa_nil)))))))
      (pss_one (ps_ret (pe_callTy c_tuple (by rfl) T.n_tuple (by decide +kernel) (pa_cons (pv 1) pa_nil)))))), rd__law_unit h⟩)
theorem ok__law_fit_tree (T : TX K mg) : ∀ n, FnOk Pg w K mg base CX0 (9 + n) T.a__law_fit_tree T.d__law_fit_tree ["_law_bag_here", "_law_deep", "_law_rank_here", "_law_names"] (spWB K (P_lfit n))
  | 0 => fnok_none (fun vs H Q E h => no_WB (fun _ _ z => z) h)
  | n + 1 => okWB T.cs T.F__law_fit_tree sc__law_fit_tree ln__law_fit_tree (fun ds A h cdv Ar outer sh H E hr => ⟨t__law_fit_tree K n , (pss_cons (ps_set (i := 4) sc__law_fit_tree.nd rfl (by first | exact Or.inl rfl | exact Or.inr rfl) (pe_call (ok__law_pull T) (hr.mono (by first | omega | (simp only [Nat.add_eq]; omega))) (by rfl) T.g__law_pull T.F__law_pull.kp T.b__law_pull .nil pass0 (pa_cons (pv 0) (pa_cons pe_int pa_nil))))
      (pss_cons (ps_if (PW.pt (pw_or (pt_cmpR op_eq (pv 1) pe_int (nomark _)) (pw_or1 (pt_cmpR op_ltI (pv 4) pe_int (nomark _))))) (pss_cons (ps_setLc (i := 7) (own := [("_law_name", 10), ("_law_size", 11)]) (g := (gTup K 2 (gCons (gName 10) (gCons (gName 11) gNil)))) (tt := (tTest (tOp rEq (tVar 11) (tVar 2)))) rfl sc__law_fit_tree.nd rfl rfl (sw_true rfl rfl rfl (by decide +kernel)) (pi_list (pv 3)) (blkOk_by (own := [("_law_name", 10), ("_law_size", 11)]) (N := ["_law_bag_here", "_law_deep", "_law_rank_here", "_law_names", "_law_kind", "_law_word", "_law_first", "_law_fitting", "_law_start", "_law_table", "_law_name", "_law_size"]) (sc := defScope s__law_fit_tree) (by decide +kernel)) (fun _ _ _ _ _ => (pg_tup rfl (pgs_cons (pg_name (i := 10) sc__law_fit_tree.nd rfl (by first | exact Or.inl rfl | exact Or.inr rfl)) (pgs_cons (pg_name (i := 11) sc__law_fit_tree.nd rfl (by first | exact Or.inl rfl | exact Or.inr rfl)) pgs_nil)))) (fun _ _ _ _ _ => pts_one (pt_cmpR op_eq (pv 11) (pv 2) (nomark _))) (fun _ _ _ _ _ => (pv 10)))
      (pss_one (ps_if (pt_cmpR op_gtI (pe_callB c_len (by rfl) T.n_len PySem.boot_len (pa_cons (pv 7) pa_nil)) pe_int (nomark _)) (pss_one (ps_ret (pe_tup (pa_cons pe_str (pa_cons (pe_ix ix_seq (pv 7) (pe_call (ok__law_pull T) (hr.mono (by first | omega | (simp only [Nat.add_eq]; omega))) (by rfl) T.g__law_pull T.F__law_pull.kp T.b__law_pull .nil pass0 (pa_cons (pv 0) (pa_cons (pe_callB c_len (by rfl) T.n_len PySem.boot_len (pa_cons (pv 7) pa_nil)) pa_nil))) (fun _ _ => rfl)) pa_nil))))) pss_nil))) pss_nil)
      (pss_cons (ps_if (pt_cmpR op_eq (pv 1) pe_int (nomark _)) (pss_one (ps_ret (pe_tup (pa_cons pe_str (pa_cons (pe_call (ok__law_map T) (hr.mono (by first | omega | (simp only [Nat.add_eq]; omega))) (by rfl) T.g__law_map T.F__law_map.kp T.b__law_map .nil pass0 (pa_cons (pv 0) (pa_cons (pe_op op_subI pe_int (pv 2)) (pa_cons (pv 2) pa_nil)))) (pa_cons (pe_tup (pa_cons pe_str (pa_cons (pe_ix ix_seq (pe_lc (own := [("_law_name", 10), ("_law_size", 11)]) (g := (gTup K 2 (gCons (gName 10) (gCons (gName 11) gNil)))) (tt := (tTest (tOp rNe (tVar 11) (tVar 2)))) rfl sc__law_fit_tree.nd (pi_list (pv 3)) (blkOk_by (own := [("_law_name", 10), ("_law_size", 11)]) (N := ["_law_bag_here", "_law_deep", "_law_rank_here", "_law_names", "_law_kind", "_law_word", "_law_first", "_law_fitting", "_law_start", "_law_table", "_law_name", "_law_size"]) (sc := defScope s__law_fit_tree) (by decide +kernel)) (fun _ _ _ _ _ => (pg_tup rfl (pgs_cons (pg_name (i := 10) sc__law_fit_tree.nd rfl (by first | exact Or.inl rfl | exact Or.inr rfl)) (pgs_cons (pg_name (i := 11) sc__law_fit_tree.nd rfl (by first | exact Or.inl rfl | exact Or.inr rfl)) pgs_nil)))) (fun _ _ _ _ _ => pts_one (pt_cmpR op_ne (pv 11) (pv 2) (nomark _))) (fun _ _ _ _ _ => (pv 10))) pe_int (fun _ _ => rfl)) pa_nil))) pa_nil)))))) pss_nil)
      (pss_cons (ps_if (pt_cmpR op_ltI (pv 4) pe_int (nomark _)) (pss_one (ps_ret (pe_tup (pa_cons pe_str (pa_cons (pe_ix ix_seq (pe_lst (pa_cons pe_int (pa_cons (pe_un un_negI pe_int) (pa_cons pe_int (pa_cons (pe_un un_negI pe_int) (pa_cons pe_int pa_nil)))))) (pe_call (ok__law_pull T) (hr.mono (by first | omega | (simp only [Nat.add_eq]; omega))) (by rfl) T.g__law_pull T.F__law_pull.kp T.b__law_pull .nil pass0 (pa_cons (pv 0) (pa_cons pe_int pa_nil))) (fun _ _ => rfl)) (pa_cons (pe_call (ok__law_fit_tree T n) hr (by rfl) T.g__law_fit_tree T.F__law_fit_tree.kp T.b__law_fit_tree .nil pass0 (pa_cons (pv 0) (pa_cons (pe_op op_subI (pv 1) pe_int) (pa_cons (pv 2) (pa_cons (pv 3) pa_nil))))) pa_nil)))))) pss_nil)
      (pss_cons (ps_if (pt_cmpR op_ltI (pv 4) pe_int (nomark _)) (pss_one (ps_ret (pe_tup (pa_cons pe_str (pa_cons (pe_call (ok__law_fit_tree T n) hr (by rfl) T.g__law_fit_tree T.F__law_fit_tree.kp T.b__law_fit_tree .nil pass0 (pa_cons (pv 0) (pa_cons (pe_op op_subI (pv 1) pe_int) (pa_cons (pv 2) (pa_cons (pv 3) pa_nil))))) pa_nil))))) pss_nil)
      (pss_cons (ps_if (pt_cmpR op_ltI (pv 4) pe_int (nomark _)) (pss_cons (ps_set (i := 8) sc__law_fit_tree.nd rfl (by first | exact Or.inl rfl | exact Or.inr rfl) (pe_op op_addI pe_int (pe_call (ok__law_pull T) (hr.mono (by first | omega | (simp only [Nat.add_eq]; omega))) (by rfl) T.g__law_pull T.F__law_pull.kp T.b__law_pull .nil pass0 (pa_cons (pv 0) (pa_cons pe_int pa_nil)))))
      (pss_cons (ps_set (i := 9) sc__law_fit_tree.nd rfl (by first | exact Or.inl rfl | exact Or.inr rfl) (pe_call (ok__law_map T) (hr.mono (by first | omega | (simp only [Nat.add_eq]; omega))) (by rfl) T.g__law_map T.F__law_map.kp T.b__law_map .nil pass0 (pa_cons (pv 0) (pa_cons (pv 8) (pa_cons (pv 2) pa_nil)))))
      (pss_cons (ps_if (PW.pt (pw_and (pt_cmpR op_eq (pv 8) (pv 2) (nomark _)) (pw_and1 (pt_cmpR op_eq (pe_call (ok__law_pull T) (hr.mono (by first | omega | (simp only [Nat.add_eq]; omega))) (by rfl) T.g__law_pull T.F__law_pull.kp T.b__law_pull .nil pass0 (pa_cons (pv 0) (pa_cons pe_int pa_nil))) pe_int (nomark _))))) (pss_one (ps_set (i := 9) sc__law_fit_tree.nd rfl (by first | exact Or.inl rfl | exact Or.inr rfl) (pe_call (ok__law_unit T) (hr.mono (by first | omega | (simp only [Nat.add_eq]; omega))) (by rfl) T.g__law_unit T.F__law_unit.kp T.b__law_unit .nil pass0 (pa_cons (pv 2) pa_nil)))) pss_nil)
      (pss_one (ps_ret (pe_tup (pa_cons pe_str (pa_cons (pv 9) (pa_cons (pe_call (ok__law_fit_tree T n) hr (by rfl) T.g__law_fit_tree T.F__law_fit_tree.kp T.b__law_fit_tree .nil pass0 (pa_cons (pv 0) (pa_cons (pe_op op_subI (pv 1) pe_int) (pa_cons (pv 8) (pa_cons (pv 3) pa_nil))))) pa_nil))))))))) pss_nil)
      (pss_cons (ps_set (i := 5) sc__law_fit_tree.nd rfl (by first | exact Or.inl rfl | exact Or.inr rfl) (pe_ix ix_seq (pe_lst (pa_cons pe_str (pa_cons pe_str (pa_cons pe_str (pa_cons pe_str pa_nil))))) (pe_call (ok__law_pull T) (hr.mono (by first | omega | (simp only [Nat.add_eq]; omega))) (by rfl) T.g__law_pull T.F__law_pull.kp T.b__law_pull .nil pass0 (pa_cons (pv 0) (pa_cons pe_int pa_nil))) (fun _ _ => rfl)))
      (pss_cons (ps_set (i := 6) sc__law_fit_tree.nd rfl (by first | exact Or.inl rfl | exact Or.inr rfl) (pe_call (ok__law_fit_tree T n) hr (by rfl) T.g__law_fit_tree T.F__law_fit_tree.kp T.b__law_fit_tree .nil pass0 (pa_cons (pv 0) (pa_cons (pe_op op_subI (pv 1) pe_int) (pa_cons (pv 2) (pa_cons (pv 3) pa_nil))))))
      (pss_one (ps_ret (pe_tup (pa_cons (pv 5) (pa_cons (pv 6) (pa_cons (pe_call (ok__law_fit_tree T n) hr (by rfl) T.g__law_fit_tree T.F__law_fit_tree.kp T.b__law_fit_tree .nil pass0 (pa_cons (pv 0) (pa_cons (pe_op op_subI (pv 1) pe_int) (pa_cons (pv 2) (pa_cons (pv 3) pa_nil))))) pa_nil)))))))))))))), rd__law_fit_tree h⟩)
theorem ok__law_inner (T : TX K mg) : FnOk Pg w K mg base CX0 1 T.a__law_inner T.d__law_inner ["_law_tree_here"] (spW0 K P_linner) :=
  okW T.cs T.F__law_inner sc__law_inner ln__law_inner (fun ds A h cdv Ar outer sh H E hr => ⟨t__law_inner K, (pss_cons (ps_if (pt_cmpR op_eq (pe_ix ix_seq (pv 0) pe_int (fun _ _ => rfl)) pe_str (nomark _)) (pss_one (ps_ret (pe_lst pa_nil))) pss_nil)
      (pss_one (ps_ret (pe_ifExp (pt_cmpR (op_inS (u65 hr)) (pe_ix ix_seq (pv 0) pe_int (fun _ _ => rfl)) (pe_lst (pa_cons pe_str (pa_cons pe_str pa_nil))) (by rfl)) (pe_callTy c_list (by rfl) T.n_list (by decide +kernel) (pa_cons (pe_slice sl_tupA (pv 0) (po_some pe_int) po_none) pa_nil)) (pe_callTy c_list (by rfl) T.n_list (by decide +kernel) (pa_cons (pe_slice sl_tupA (pv 0) (po_some pe_int) po_none) pa_nil)))))), rd__law_inner h⟩)
theorem ok__law_parts (T : TX K mg) : ∀ n, FnOk Pg w K mg base CX0 (2 + n) T.a__law_parts T.d__law_parts ["_law_tree_here"] (spW0 K (P_lparts n))
  | 0 => fnok_none (fun vs H Q E h => no_W0 (fun _ _ z => z) h)
  | n + 1 => okW T.cs T.F__law_parts sc__law_parts ln__law_parts (fun ds A h cdv Ar outer sh H E hr => ⟨t__law_parts K n , (pss_cons (ps_set (i := 1) sc__law_parts.nd rfl (by first | exact Or.inl rfl | exact Or.inr rfl) (pe_lst pa_nil))
      (pss_cons (ps_for PassesOwn.never rfl (pi_list (pe_call (ok__law_inner T) (hr.mono (by first | omega | (simp only [Nat.add_eq]; omega))) (by rfl) T.g__law_inner T.F__law_inner.kp T.b__law_inner .nil pass0 (pa_cons (pv 0) pa_nil))) (pg_name (i := 2) sc__law_parts.nd rfl (by first | exact Or.inl rfl | exact Or.inr rfl)) (pss_one (ps_expr (pe_bm PySem.F.plainAttrs_list PySem.F.slot_list_extend PySem.F.type_list_extend mt_extQ (pv 1) (pa_cons (pe_call (ok__law_parts T n) hr (by rfl) T.g__law_parts T.F__law_parts.kp T.b__law_parts .nil pass0 (pa_cons (pv 2) pa_nil)) pa_nil)))))
      (pss_one (ps_ret (pe_op op_catL (pv 1) (pe_lst (pa_cons (pv 0) pa_nil))))))), rd__law_parts h⟩)
theorem ok__law_tree (T : TX K mg) : ∀ n, FnOk Pg w K mg base CX0 (9 + n) T.a__law_tree T.d__law_tree ["_law_bag_here", "_law_deep", "_law_names"] (spWB K (P_ltree n))
  | 0 => fnok_none (fun vs H Q E h => no_WB (fun _ _ z => z) h)
  | n + 1 => okWB T.cs T.F__law_tree sc__law_tree ln__law_tree (fun ds A h cdv Ar outer sh H E hr => ⟨t__law_tree K n , (pss_cons (ps_set (i := 3) sc__law_tree.nd rfl (by first | exact Or.inl rfl | exact Or.inr rfl) (pe_call (ok__law_pull T) (hr.mono (by first | omega | (simp only [Nat.add_eq]; omega))) (by rfl) T.g__law_pull T.F__law_pull.kp T.b__law_pull .nil pass0 (pa_cons (pv 0) (pa_cons pe_int pa_nil))))
      (pss_cons (ps_if (PW.pt (pw_or (pt_cmpR op_eq (pv 1) pe_int (nomark _)) (pw_or1 (pt_cmpR op_ltI (pv 3) pe_int (nomark _))))) (pss_one (ps_ret (pe_tup (pa_cons pe_str (pa_cons (pe_ix ix_seq (pv 2) (pe_call (ok__law_pull T) (hr.mono (by first | omega | (simp only [Nat.add_eq]; omega))) (by rfl) T.g__law_pull T.F__law_pull.kp T.b__law_pull .nil pass0 (pa_cons (pv 0) (pa_cons (pe_callB c_len (by rfl) T.n_len PySem.boot_len (pa_cons (pv 2) pa_nil)) pa_nil))) (fun _ _ => rfl)) pa_nil))))) pss_nil)
      (pss_cons (ps_if (pt_cmpR op_ltI (pv 3) pe_int (nomark _)) (pss_cons (ps_set (i := 5) sc__law_tree.nd rfl (by first | exact Or.inl rfl | exact Or.inr rfl) (pe_ix ix_seq (pe_lst (pa_cons pe_int (pa_cons (pe_un un_negI pe_int) (pa_cons pe_int (pa_cons pe_int (pa_cons (pe_un un_negI pe_int) (pa_cons (pe_op op_powI pe_int pe_int) pa_nil))))))) (pe_call (ok__law_pull T) (hr.mono (by first | omega | (simp only [Nat.add_eq]; omega))) (by rfl) T.g__law_pull T.F__law_pull.kp T.b__law_pull .nil pass0 (pa_cons (pv 0) (pa_cons pe_int pa_nil))) (fun _ _ => rfl)))
      (pss_one (ps_ret (pe_tup (pa_cons pe_str (pa_cons (pv 5) (pa_cons (pe_call (ok__law_tree T n) hr (by rfl) T.g__law_tree T.F__law_tree.kp T.b__law_tree .nil pass0 (pa_cons (pv 0) (pa_cons (pe_op op_subI (pv 1) pe_int) (pa_cons (pv 2) pa_nil)))) pa_nil))))))) pss_nil)
      (pss_cons (ps_if (pt_cmpR op_ltI (pv 3) pe_int (nomark _)) (pss_one (ps_ret (pe_tup (pa_cons pe_str (pa_cons (pe_call (ok__law_tree T n) hr (by rfl) T.g__law_tree T.F__law_tree.kp T.b__law_tree .nil pass0 (pa_cons (pv 0) (pa_cons (pe_op op_subI (pv 1) pe_int) (pa_cons (pv 2) pa_nil)))) pa_nil))))) pss_nil)
      (pss_cons (ps_if (pt_cmpR op_ltI (pv 3) pe_int (nomark _)) (pss_cons (ps_set (i := 6) sc__law_tree.nd rfl (by first | exact Or.inl rfl | exact Or.inr rfl) (pe_call (ok__law_map T) (hr.mono (by first | omega | (simp only [Nat.add_eq]; omega))) (by rfl) T.g__law_map T.F__law_map.kp T.b__law_map .nil pass0 (pa_cons (pv 0) (pa_cons (pe_op op_addI pe_int (pe_call (ok__law_pull T) (hr.mono (by first | omega | (simp only [Nat.add_eq]; omega))) (by rfl) T.g__law_pull T.F__law_pull.kp T.b__law_pull .nil pass0 (pa_cons (pv 0) (pa_cons pe_int pa_nil)))) (pa_cons (pe_op op_addI pe_int (pe_call (ok__law_pull T) (hr.mono (by first | omega | (simp only [Nat.add_eq]; omega))) (by rfl) T.g__law_pull T.F__law_pull.kp T.b__law_pull .nil pass0 (pa_cons (pv 0) (pa_cons pe_int pa_nil)))) pa_nil)))))
      (pss_one (ps_ret (pe_tup (pa_cons pe_str (pa_cons (pv 6) (pa_cons (pe_call (ok__law_tree T n) hr (by rfl) T.g__law_tree T.F__law_tree.kp T.b__law_tree .nil pass0 (pa_cons (pv 0) (pa_cons (pe_op op_subI (pv 1) pe_int) (pa_cons (pv 2) pa_nil)))) pa_nil))))))) pss_nil)
      (pss_cons (ps_set (i := 4) sc__law_tree.nd rfl (by first | exact Or.inl rfl | exact Or.inr rfl) (pe_ix ix_seq (pe_lst (pa_cons pe_str (pa_cons pe_str (pa_cons pe_str (pa_cons pe_str (pa_cons pe_str (pa_cons pe_str pa_nil))))))) (pe_call (ok__law_pull T) (hr.mono (by first | omega | (simp only [Nat.add_eq]; omega))) (by rfl) T.g__law_pull T.F__law_pull.kp T.b__law_pull .nil pass0 (pa_cons (pv 0) (pa_cons pe_int pa_nil))) (fun _ _ => rfl)))
      (pss_one (ps_ret (pe_tup (pa_cons (pv 4) (pa_cons (pe_call (ok__law_tree T n) hr (by rfl) T.g__law_tree T.F__law_tree.kp T.b__law_tree .nil pass0 (pa_cons (pv 0) (pa_cons (pe_op op_subI (pv 1) pe_int) (pa_cons (pv 2) pa_nil)))) (pa_cons (pe_call (ok__law_tree T n) hr (by rfl) T.g__law_tree T.F__law_tree.kp T.b__law_tree .nil pass0 (pa_cons (pv 0) (pa_cons (pe_op op_subI (pv 1) pe_int) (pa_cons (pv 2) pa_nil)))) pa_nil)))))))))))), rd__law_tree h⟩)
theorem ok__law_like (T : TX K mg) : ∀ n, FnOk Pg w K mg base CX0 n T.a__law_like T.d__law_like ["_law_found", "_law_due"] (spP K (P_like n))
  | 0 => fnok_false
  | n + 1 => okP T.F__law_like sc__law_like ln_like16 (fun ds r h cdv A outer sh H E hr => ⟨t_like16 K n, (pss_cons (ps_if (pt_val (pe_callB call_isiT (by rfl) T.n_isinstance (by decide +kernel) (pa_cons (pv 1) (pa_cons (pe_tup (pa_cons (pe_bltn (v := .ty "tuple") (by rfl) T.n_tuple (by decide +kernel) rfl) (pa_cons (pe_bltn (v := .ty "list") (by rfl) T.n_list (by decide +kernel) rfl) pa_nil))) pa_nil)))) (pss_cons (ps_if (pt_cmpR op_ne (pe_callB call_isi (by rfl) T.n_isinstance (by decide +kernel) (pa_cons (pv 0) (pa_cons (pe_bltn (v := .ty "tuple") (by rfl) T.n_tuple (by decide +kernel) rfl) pa_nil))) (pe_callB call_isi (by rfl) T.n_isinstance (by decide +kernel) (pa_cons (pv 1) (pa_cons (pe_bltn (v := .ty "tuple") (by rfl) T.n_tuple (by decide +kernel) rfl) pa_nil))) (nomark _)) (pss_one (ps_ret pe_bl)) pss_nil)
      (pss_cons (ps_if (PW.pt (pw_or (pt_not (pt_val (pe_callB call_isiT (by rfl) T.n_isinstance (by decide +kernel) (pa_cons (pv 0) (pa_cons (pe_tup (pa_cons (pe_bltn (v := .ty "tuple") (by rfl) T.n_tuple (by decide +kernel) rfl) (pa_cons (pe_bltn (v := .ty "list") (by rfl) T.n_list (by decide +kernel) rfl) pa_nil))) pa_nil))))) (pw_or1 (pt_cmpR op_ne (pe_callB c_len (by rfl) T.n_len PySem.boot_len (pa_cons (pv 0) pa_nil)) (pe_callB c_len (by rfl) T.n_len PySem.boot_len (pa_cons (pv 1) pa_nil)) (nomark _))))) (pss_one (ps_ret pe_bl)) pss_nil)
      (pss_one (ps_ret (pe_callB (cr_all rfl) (by rfl) T.n_all (by decide +kernel) (pa_cons (pe_lc (own := [("_law_at", 2)]) (g := (gName 2)) (tt := tYes) rfl sc__law_like.nd (pi_range1 (by rfl) T.n_range (pa_cons (pe_callB c_len (by rfl) T.n_len PySem.boot_len (pa_cons (pv 1) pa_nil)) pa_nil)) (blkOk_by (own := [("_law_at", 2)]) (N := ["_law_found", "_law_due", "_law_at"]) (sc := defScope s__law_like) (by decide +kernel)) (fun _ _ _ _ _ => (pg_name (i := 2) sc__law_like.nd rfl (by first | exact Or.inl rfl | exact Or.inr rfl))) (fun _ _ _ _ _ => pts_nil) (fun _ _ _ _ _ => (pe_call (ok__law_like T n) hr (by rfl) T.g__law_like T.F__law_like.kp T.b__law_like .nil pass0 (pa_cons (pe_ix ix_seq (pv 0) (pv 2) (fun _ _ => rfl)) (pa_cons (pe_ix ix_seq (pv 1) (pv 2) (fun _ _ => rfl)) pa_nil))))) pa_nil)))))) pss_nil)
      (pss_cons (ps_if (pt_val (pe_callB call_isi (by rfl) T.n_isinstance (by decide +kernel) (pa_cons (pv 1) (pa_cons (pe_bltn (v := .ty "bool") (by rfl) T.n_bool (by decide +kernel) rfl) pa_nil)))) (pss_one (ps_ret (pe_and (pe_callB call_isi (by rfl) T.n_isinstance (by decide +kernel) (pa_cons (pv 0) (pa_cons (pe_bltn (v := .ty "bool") (by rfl) T.n_bool (by decide +kernel) rfl) pa_nil))) (pe_one (pe_cmpR op_eq (pv 0) (pv 1) (nomark _)))))) pss_nil)
      (pss_cons (ps_if (pt_val (pe_callB call_isi (by rfl) T.n_isinstance (by decide +kernel) (pa_cons (pv 1) (pa_cons (pe_bltn (v := .ty "int") (by rfl) T.n_int (by decide +kernel) rfl) pa_nil)))) (pss_one (ps_ret (pe_and (pe_callB call_isi (by rfl) T.n_isinstance (by decide +kernel) (pa_cons (pv 0) (pa_cons (pe_bltn (v := .ty "int") (by rfl) T.n_int (by decide +kernel) rfl) pa_nil))) (pe_and (pe_not (pe_callB call_isi (by rfl) T.n_isinstance (by decide +kernel) (pa_cons (pv 0) (pa_cons (pe_bltn (v := .ty "bool") (by rfl) T.n_bool (by decide +kernel) rfl) pa_nil)))) (pe_one (pe_cmpR op_eq (pv 0) (pv 1) (nomark _))))))) pss_nil)
      (pss_cons (ps_if (pt_val (pe_callB call_isi (by rfl) T.n_isinstance (by decide +kernel) (pa_cons (pv 1) (pa_cons (pe_bltn (v := .ty "str") (by rfl) T.n_str (by decide +kernel) rfl) pa_nil)))) (pss_one (ps_ret (pe_and (pe_callB call_isi (by rfl) T.n_isinstance (by decide +kernel) (pa_cons (pv 0) (pa_cons (pe_bltn (v := .ty "str") (by rfl) T.n_str (by decide +kernel) rfl) pa_nil))) (pe_one (pe_cmpR op_eq (pv 0) (pv 1) (nomark _)))))) pss_nil)
      (pss_one (ps_ret (pe_and (pe_cmpR o_isN (pv 1) pe_non (nomark _)) (pe_one (pe_cmpR o_isN (pv 0) pe_non (nomark _)))))))))), rd_like16 h⟩)
theorem ok_row_of (T : TX K mg) : FnOk Pg w K mg base CX0 1 T.a_row_of T.d_row_of ["tree"] (spW0 K P_rowOf) :=
  okW T.cs T.F_row_of sc_row_of ln_row_of (fun ds A h cdv Ar outer sh H E hr => ⟨t_row_of K, (pss_one (ps_ret (pe_ifExp (pt_cmpR (op_inS (u65 hr)) (pe_ix ix_seq (pv 0) pe_int (fun _ _ => rfl)) (pe_tup (pa_cons pe_str (pa_cons pe_str (pa_cons pe_str pa_nil)))) (by rfl)) (pe_slice sl_tupA (pv 0) po_none (po_some pe_int)) (pe_slice sl_tupA (pv 0) po_none (po_some pe_int))))), rd_row_of h⟩)
theorem ok_inner_of (T : TX K mg) : FnOk Pg w K mg base CX0 1 T.a_inner_of T.d_inner_of ["tree"] (spW0 K P_inner) :=
  okW T.cs T.F_inner_of sc_inner_of ln_inner_of (fun ds A h cdv Ar outer sh H E hr => ⟨t_inner_of K, (pss_cons (ps_asg (pv 0) (pg_starE rfl (pgs_cons (pg_name (i := 1) sc_inner_of.nd rfl (by first | exact Or.inl rfl | exact Or.inr rfl)) (pgs_cons (pg_name (i := 2) sc_inner_of.nd rfl (by first | exact Or.inl rfl | exact Or.inr rfl)) pgs_nil))))
      (pss_cons (ps_if (pt_cmpR op_eq (pv 1) pe_str (nomark _)) (pss_one (ps_ret (pe_lst pa_nil))) pss_nil)
      (pss_one (ps_ret (pe_ifExp (pt_cmpR (op_inS (u65 hr)) (pv 1) (pe_tup (pa_cons pe_str (pa_cons pe_str pa_nil))) (by rfl)) (pe_slice sl_list (pv 2) (po_some pe_int) po_none) (pv 2)))))), rd_inner_of h⟩)
theorem ok_parts_of (T : TX K mg) : ∀ n, FnOk Pg w K mg base CX0 (2 + n) T.a_parts_of T.d_parts_of ["tree"] (spW0 K (P_parts n))
  | 0 => fnok_none (fun vs H Q E h => no_W0 (fun _ _ z => z) h)
  | n + 1 => okW T.cs T.F_parts_of sc_parts_of ln_parts_of (fun ds A h cdv Ar outer sh H E hr => ⟨t_parts_of K n , (pss_cons (ps_set (i := 1) sc_parts_of.nd rfl (by first | exact Or.inl rfl | exact Or.inr rfl) (pe_lst pa_nil))
      (pss_cons (ps_for PassesOwn.never rfl (pi_list (pe_call (ok_inner_of T) (hr.mono (by first | omega | (simp only [Nat.add_eq]; omega))) (by rfl) T.g_inner_of T.F_inner_of.kp T.b_inner_of .nil pass0 (pa_cons (pv 0) pa_nil))) (pg_name (i := 2) sc_parts_of.nd rfl (by first | exact Or.inl rfl | exact Or.inr rfl)) (pss_one (ps_aug (i := 1) sc_parts_of.nd rfl (by first | exact Or.inl rfl | exact Or.inr rfl) (pe_call (ok_parts_of T n) hr (by rfl) T.g_parts_of T.F_parts_of.kp T.b_parts_of .nil pass0 (pa_cons (pv 2) pa_nil)) ip_catL)))
      (pss_one (ps_ret (pe_op op_catL (pv 1) (pe_lst (pa_cons (pv 0) pa_nil))))))), rd_parts_of h⟩)
theorem ok_rows_of (T : TX K mg) : FnOk Pg w K mg base CX0 15 T.a_rows_of T.d_rows_of ["tree"] (spW0 K P_rowsOf) :=
  okW T.cs T.F_rows_of sc_rows_of ln_rows_of (fun ds A h cdv Ar outer sh H E hr => ⟨t_rows_of K, (pss_one (ps_ret (pe_lc (own := [("one", 1)]) (g := (gName 1)) (tt := tYes) rfl sc_rows_of.nd (pi_list (pe_call (ok_parts_of T 12) (hr.mono (by decide)) (by rfl) T.g_parts_of T.F_parts_of.kp T.b_parts_of .nil pass0 (pa_cons (pv 0) pa_nil))) (blkOk_by (own := [("one", 1)]) (N := ["tree", "one"]) (sc := defScope s_rows_of) (by decide +kernel)) (fun _ _ _ _ _ => (pg_name (i := 1) sc_rows_of.nd rfl (by first | exact Or.inl rfl | exact Or.inr rfl))) (fun _ _ _ _ _ => pts_nil) (fun _ _ _ _ _ => (pe_call (ok_row_of T) (hr.mono (by decide)) (by rfl) T.g_row_of T.F_row_of.kp T.b_row_of .nil pass0 (pa_cons (pv 1) pa_nil)))))), rd_rows_of h⟩)
theorem ok_names_in (T : TX K mg) : FnOk Pg w K mg base CX0 15 T.a_names_in T.d_names_in ["tree"] (spW0 K P_namesIn) :=
  okW T.cs T.F_names_in sc_names_in ln_names_in (fun ds A h cdv Ar outer sh H E hr => ⟨t_names_in K, (pss_cons (ps_set (i := 1) sc_names_in.nd rfl (by first | exact Or.inl rfl | exact Or.inr rfl) pe_dnewK)
      (pss_cons (ps_for PassesOwn.never rfl (pi_list (pe_call (ok_parts_of T 12) (hr.mono (by decide)) (by rfl) T.g_parts_of T.F_parts_of.kp T.b_parts_of .nil pass0 (pa_cons (pv 0) pa_nil))) (pg_name (i := 2) sc_names_in.nd rfl (by first | exact Or.inl rfl | exact Or.inr rfl)) (pss_one (ps_if (pt_cmpR op_eq (pe_ix ix_seq (pv 2) pe_int (fun _ _ => rfl)) pe_str (nomark _)) (pss_one (ps_dput (hu_of hr) (pv 1) (pe_ix ix_seq (pv 2) pe_int (fun _ _ => rfl)) pe_bl rfl)) pss_nil)))
      (pss_one (ps_ret (pe_callTy (call_list_dK rfl) (by rfl) T.n_list (by decide +kernel) (pa_cons (pv 1) pa_nil)))))), rd_names_in h⟩)
theorem ok__law_row (T : TX K mg) : FnOk Pg w K mg base CX0 1 T.a__law_row T.d__law_row ["_law_tree_here"] (spW0 K P_lrow) :=
  okW T.cs T.F__law_row sc__law_row ln__law_row (fun ds A h cdv Ar outer sh H E hr => ⟨t__law_row K, (pss_cons (ps_if (pt_cmpR op_eq (pe_ix ix_seq (pv 0) pe_int (fun _ _ => rfl)) pe_str (nomark _)) (pss_one (ps_ret (pv 0))) pss_nil)
      (pss_one (ps_ret (pe_ifExp (pt_cmpR (op_inS (u65 hr)) (pe_ix ix_seq (pv 0) pe_int (fun _ _ => rfl)) (pe_lst (pa_cons pe_str (pa_cons pe_str pa_nil))) (by rfl)) (pe_slice sl_tupA (pv 0) po_none (po_some pe_int)) (pe_slice sl_tupA (pv 0) po_none (po_some pe_int)))))), rd__law_row h⟩)
theorem ok_room_of (T : TX K mg) : ∀ n, FnOk Pg w K mg base (L2.CX Pg w) (3 + n) T.a_room_of T.d_room_of ["tree", "rooms"] (spEX K T.cs (P_roomOf K n))
  | 0 => fnok_none (fun vs H Q E h => no_EX (fun _ _ z => z) h)
  | n + 1 => okEX T.F_room_of sc_room_of ln_room_of (fun ds A h cdv Ar outer sh H E hr => ⟨t_room_of K n T.cs (WD E), (pss_cons (ps_setLcX (i := 2) (own := [("one", 3)]) (g := (gName 3)) (tt := tYes) rfl rfl (takes_of rfl rfl rfl rfl) rfl sc_room_of.nd rfl rfl (sw_true rfl rfl rfl (by decide +kernel)) (pi_list (pe_call (ok_inner_of T) (hr.mono (by first | omega | (simp only [Nat.add_eq]; omega))) (by rfl) T.g_inner_of T.F_inner_of.kp T.b_inner_of .nil pass0 (pa_cons (pv 0) pa_nil))) (blkOk_by (own := [("one", 3)]) (N := ["tree", "rooms", "inner", "one"]) (sc := defScope s_room_of) (by decide +kernel)) (fun _ _ _ _ _ => (pg_name (i := 3) sc_room_of.nd rfl (by first | exact Or.inl rfl | exact Or.inr rfl))) (fun _ _ _ _ _ => pts_nil) (fun _ _ _ _ _ _ pa => (pe_callSD (ok_room_of T n) hr (by rfl) T.g_room_of T.F_room_of.kp T.b_room_of .nil (fun σ => pa σ) (pa_cons (pv 3) (pa_cons (pv 1) pa_nil)))))
      (pss_cons (ps_if (pt_cmpR op_eq (pe_ix ix_seq (pv 0) pe_int (fun _ _ => rfl)) pe_str (nomark _)) (pss_cons (ps_if (pt_cmp (pc_dnotin (hu_of hr) (pe_ix ix_seq (pv 0) pe_int (fun _ _ => rfl)) (pv 1))) (pss_one (ps_raise rfl (takes_of rfl rfl rfl rfl) (pmk_ox T.ox_NoName T.kC_NoName T.i_NoName T.ti_NoName (ok_NoName T) (hr.mono (by first | omega | (simp only [Nat.add_eq]; omega))) T.bi_NoName .nil pass0 (by rfl) T.g_NoName (pa_cons (pe_ix ix_seq (pv 0) pe_int (fun _ _ => rfl)) pa_nil)))) pss_nil)
      (pss_one (ps_ret (pe_dget (hu_of hr) (pv 1) (pe_ix ix_seq (pv 0) pe_int (fun _ _ => rfl)) (fun _ _ => rfl))))) pss_nil)
      (pss_cons (ps_if (pt_cmpR op_eq (pe_ix ix_seq (pv 0) pe_int (fun _ _ => rfl)) pe_str (nomark _)) (pss_cons (ps_if (pt_cmpR op_ne (pe_op op_subI (pe_callB c_len (by rfl) T.n_len PySem.boot_len (pa_cons (pe_ix ix_seq (pe_ix ix_seq (pv 0) pe_int (fun _ _ => rfl)) pe_int (fun _ _ => rfl)) pa_nil)) pe_int) (pe_ix ix_seq (pv 2) pe_int (fun _ _ => rfl)) (nomark _)) (pss_one (ps_raise rfl (takes_of rfl rfl rfl rfl) (pmk_ox0 T.ox_OtherRoom T.kC_OtherRoom T.i_OtherRoom T.ti_OtherRoom (ok_OtherRoom T) (hr.mono (by first | omega | (simp only [Nat.add_eq]; omega))) T.bi_OtherRoom .nil pass0 (by rfl) T.g_OtherRoom))) pss_nil)
      (pss_one (ps_ret (pe_callB c_len (by rfl) T.n_len PySem.boot_len (pa_cons (pe_ix ix_seq (pv 0) pe_int (fun _ _ => rfl)) pa_nil))))) pss_nil)
      (pss_cons (ps_if (pt_cmpR op_ne (pe_ix ix_seq (pv 2) pe_int (fun _ _ => rfl)) (pe_ix ix_seq (pv 2) (pe_un un_negI pe_int) (fun _ _ => rfl)) (nomark _)) (pss_one (ps_raise rfl (takes_of rfl rfl rfl rfl) (pmk_ox0 T.ox_OtherRoom T.kC_OtherRoom T.i_OtherRoom T.ti_OtherRoom (ok_OtherRoom T) (hr.mono (by first | omega | (simp only [Nat.add_eq]; omega))) T.bi_OtherRoom .nil pass0 (by rfl) T.g_OtherRoom))) pss_nil)
      (pss_one (ps_ret (pe_ix ix_seq (pv 2) pe_int (fun _ _ => rfl)))))))), rd_room_of T.cf_NoName T.cf_OtherRoom h (WD E)⟩)
theorem ok__law_told (T : TX K mg) : FnOk Pg w K mg base CX0 16 T.a__law_told T.d__law_told ["_law_tree_here", "_law_ranks"] (spE K (P_told54 K)) :=
  okE T.cs T.F__law_told sc__law_told ln_told54 (fun es A h cdv Ar outer sh H E hr => ⟨t_told54 K T.cs, (pss_one (ps_try_manyAs (tb := fun W => (tRet (tCallSD (spEX K T.cs (P_roomOf K 12)) [] (WE W) (tCons (tVar 0) (tCons (tVar 1) tNil))))) (Wout := fun _ _ _ _ => False) rfl rfl takes0 (fun W pn xe tk _ => (pss_one (ps_ret (pe_callSD (ok_room_of T 12) (hr.mono (by decide)) (by rfl) T.g_room_of T.F_room_of.kp T.b_room_of .nil (fun σ => passAt tk σ) (pa_cons (pv 0) (pa_cons (pv 1) pa_nil)))))) (HdsAs.cons (i := 2) (ts := fun a cls d => (tRet (tTup (tCons (tXf a cls d (T.cs "NoName") "word" (tVar 2)) (tCons (tXf a cls d (T.cs "NoName") "name" (tVar 2)) tNil))))) sc__law_told.nd rfl rfl ⟨rfl, by decide, Or.inl T.g_NoName⟩ (fun a oe cls d pn hz hf => (pss_one (ps_ret (pe_tup (pa_cons (pe_xf T.xf_NoName T.nw_NoName_word hz hf (pv 2)) (pa_cons (pe_xf T.xf_NoName T.nw_NoName_name hz hf (pv 2)) pa_nil)))))) (HdsAs.cons (i := 2) (ts := fun a cls d => (tRet (tTup (tCons (tXf a cls d (T.cs "OtherRoom") "word" (tVar 2)) (tCons (tC (V.str "")) tNil))))) sc__law_told.nd rfl rfl ⟨rfl, by decide, Or.inl T.g_OtherRoom⟩ (fun a oe cls d pn hz hf => (pss_one (ps_ret (pe_tup (pa_cons (pe_xf T.xf_OtherRoom T.nw_OtherRoom_word hz hf (pv 2)) (pa_cons pe_str pa_nil)))))) HdsAs.nil)))), rd_told54 T.em_NoName_NoName T.em_OtherRoom_NoName T.em_OtherRoom_OtherRoom h⟩)
theorem ok__law_rank (T : TX K mg) : ∀ n, FnOk Pg w K mg base CX0 (3 + n) T.a__law_rank T.d__law_rank ["_law_tree_here", "_law_ranks"] (spE K (P_lrank K n))
  | 0 => fnok_none (fun vs H Q E h => no_E (fun _ _ z => z) h)
  | n + 1 => okE T.cs T.F__law_rank sc__law_rank ln__law_rank (fun ds A h cdv Ar outer sh H E hr => ⟨t__law_rank K n , (pss_cons (ps_setLc (i := 2) (own := [("_law_one", 3)]) (g := (gName 3)) (tt := tYes) rfl sc__law_rank.nd rfl rfl (sw_true rfl rfl rfl (by decide +kernel)) (pi_list (pe_call (ok__law_inner T) (hr.mono (by first | omega | (simp only [Nat.add_eq]; omega))) (by rfl) T.g__law_inner T.F__law_inner.kp T.b__law_inner .nil pass0 (pa_cons (pv 0) pa_nil))) (blkOk_by (own := [("_law_one", 3)]) (N := ["_law_tree_here", "_law_ranks", "_law_inner_here", "_law_one"]) (sc := defScope s__law_rank) (by decide +kernel)) (fun _ _ _ _ _ => (pg_name (i := 3) sc__law_rank.nd rfl (by first | exact Or.inl rfl | exact Or.inr rfl))) (fun _ _ _ _ _ => pts_nil) (fun _ _ _ _ _ => (pe_call (ok__law_rank T n) hr (by rfl) T.g__law_rank T.F__law_rank.kp T.b__law_rank .nil pass0 (pa_cons (pv 3) (pa_cons (pv 1) pa_nil)))))
      (pss_cons (ps_for PassesOwn.never rfl (pi_list (pv 2)) (pg_name (i := 3) sc__law_rank.nd rfl (by first | exact Or.inl rfl | exact Or.inr rfl)) (pss_one (ps_if (pt_val (pe_callB call_isi (by rfl) T.n_isinstance (by decide +kernel) (pa_cons (pv 3) (pa_cons (pe_bltn (v := .ty "tuple") (by rfl) T.n_tuple (by decide +kernel) rfl) pa_nil)))) (pss_one (ps_ret (pv 3))) pss_nil)))
      (pss_cons (ps_if (pt_cmpR op_eq (pe_ix ix_seq (pv 0) pe_int (fun _ _ => rfl)) pe_str (nomark _)) (pss_one (ps_ret (pe_ifExp (pt_cmp (pc_din (hu_of hr) (pe_ix ix_seq (pv 0) pe_int (fun _ _ => rfl)) (pv 1))) (pe_dget (hu_of hr) (pv 1) (pe_ix ix_seq (pv 0) pe_int (fun _ _ => rfl)) (fun _ _ => rfl)) (pe_tup (pa_cons pe_str (pa_cons (pe_ix ix_seq (pv 0) pe_int (fun _ _ => rfl)) pa_nil)))))) pss_nil)
      (pss_cons (ps_if (pt_cmpR op_eq (pe_ix ix_seq (pv 0) pe_int (fun _ _ => rfl)) pe_str (nomark _)) (pss_one (ps_ret (pe_ifExp (pt_cmpR op_eq (pe_op op_subI (pe_callB c_len (by rfl) T.n_len PySem.boot_len (pa_cons (pe_ix ix_seq (pe_ix ix_seq (pv 0) pe_int (fun _ _ => rfl)) pe_int (fun _ _ => rfl)) pa_nil)) pe_int) (pe_ix ix_seq (pv 2) pe_int (fun _ _ => rfl)) (nomark _)) (pe_callB c_len (by rfl) T.n_len PySem.boot_len (pa_cons (pe_ix ix_seq (pv 0) pe_int (fun _ _ => rfl)) pa_nil)) (pe_tup (pa_cons pe_str (pa_cons pe_str pa_nil)))))) pss_nil)
      (pss_one (ps_ret (pe_ifExp (pt_cmpR op_eq (pe_ix ix_seq (pv 2) pe_int (fun _ _ => rfl)) (pe_ix ix_seq (pv 2) (pe_un un_negI pe_int) (fun _ _ => rfl)) (nomark _)) (pe_ix ix_seq (pv 2) pe_int (fun _ _ => rfl)) (pe_tup (pa_cons pe_str (pa_cons pe_str pa_nil)))))))))), rd__law_rank h⟩)
def t_law (K : Fg) : TS := (tSeq (tAsg (tLst (tCons (tTup (tCons (tC (V.str "a")) (tCons (tC (V.int 2)) tNil))) (tCons (tTup (tCons (tC (V.str "b")) (tCons (tC (V.int 1)) tNil))) (tCons (tTup (tCons (tC (V.str "c")) (tCons (tC (V.int 2)) tNil))) tNil)))) (gName 2))
  (tSeq (tAsg (tDisp (([("a", 2), ("b", 1), ("c", 2)] : List (Str × Int)).map fun p : Str × Int => (tC (V.str p.1), tC (V.int p.2)))) (gName 3))
  (tSeq (tIfS (tTest (tOp rEq (tCall (spB K P_pull) [] E0 (tCons (tVar 1) (tCons (tC (V.int 3)) tNil))) (tC (V.int 0)))) (tDrop (tDPop1 (tVar 3) (tOp (rIx K) (tLst (tCons (tC (V.str "a")) (tCons (tC (V.str "b")) (tCons (tC (V.str "c")) tNil)))) (tCall (spB K P_pull) [] E0 (tCons (tVar 1) (tCons (tC (V.int 3)) tNil)))))) tNext)
  (tSeq (tAsg (tCB rDictC (tCons (tVar 3) tNil)) (gName 4))
  (tSeq (tFor (iRng1 (tCons (tC (V.int 3)) tNil)) (gName 5) (tSeq (tAsg (tCall (spWB K (P_lfit 8)) [] E0 (tCons (tVar 1) (tCons (tOp rAddI (tC (V.int 1)) (tCall (spB K P_pull) [] E0 (tCons (tVar 1) (tCons (tC (V.int 4)) tNil)))) (tCons (tOp rAddI (tC (V.int 1)) (tCall (spB K P_pull) [] E0 (tCons (tVar 1) (tCons (tC (V.int 2)) tNil)))) (tCons (tVar 2) tNil))))) (gName 6))
  (tSeq (tIfS (tTest (tOp rEq (tVar 5) (tC (V.int 1)))) (tAsg (tCall (spWB K (P_ltree 8)) [] E0 (tCons (tVar 1) (tCons (tC (V.int 3)) (tCons (tLst (tCons (tC (V.str "a")) (tCons (tC (V.str "b")) (tCons (tC (V.str "c")) tNil)))) tNil)))) (gName 6)) tNext)
  (tSeq (tAsg (tCall (spW0 K (P_lparts 12)) [] E0 (tCons (tVar 6) tNil)) (gName 7))
  (tSeq (tAsg (tLst tNil) (gName 8))
  (tSeq (tFor (iList K (tVar 7)) (gName 9) (tIfS (tAnd (tTest (tOp rEq (tOp (rIx K) (tVar 9) (tC (V.int 0))) (tC (V.str "name")))) (tTest (tOp (rInS K true) (tOp (rIx K) (tVar 9) (tC (V.int 1))) (tVar 8)))) (tDrop (tBM K "list" rAppend (tVar 8) (tCons (tOp (rIx K) (tVar 9) (tC (V.int 1))) tNil))) tNext))
  (tSeq (tIfS (tOr (tNot (tB (tCall (spP K (P_like 16)) [] E0 (tCons (tCall (spW0 K (P_parts 12)) [] E0 (tCons (tVar 6) tNil)) (tCons (tVar 7) tNil))))) (tNot (tB (tCall (spP K (P_like 16)) [] E0 (tCons (tCall (spW0 K P_namesIn) [] E0 (tCons (tVar 6) tNil)) (tCons (tVar 8) tNil)))))) (tRet (tC (V.bl false))) tNext)
  (tSeq (tIfS (tNot (tB (tCall (spP K (P_like 16)) [] E0 (tCons (tCall (spW0 K P_rowsOf) [] E0 (tCons (tVar 6) tNil)) (tCons (tLc (iList K (tVar 7)) (gName 9) tYes (tCall (spW0 K P_lrow) [] E0 (tCons (tVar 9) tNil)) [9]) tNil))))) (tRet (tC (V.bl false))) tNext)
  (tIfS (tOr (tNot (tB (tCall (spP K (P_like 16)) [] E0 (tCons (tCall (spE K (P_told54 K)) [] E0 (tCons (tVar 6) (tCons (tVar 3) tNil))) (tCons (tCall (spE K (P_lrank K 12)) [] E0 (tCons (tVar 6) (tCons (tVar 3) tNil))) tNil))))) (tTest (tOp rNeDA (tVar 3) (tVar 4)))) (tRet (tC (V.bl false))) tNext)))))))))
  (tRet (tC (V.bl true))))))))
-- slots of law: 0 _law_script, 1 _law_bag_here, 2 _law_names, 3 _law_ranks, 4 _law_kept, 5 _law_turn, 6 _law_tree_here, 7 _law_parts_here, 8 _law_used, 9 _law_one
theorem sw_off {tu : TS} {G : Gam} {Φ : Out → Prop} (i : Nat) (h : SW K cs W tu (G.set i .un) Φ) : SW K cs W tu G Φ := fun Wd B ad H0 H σ D S q => by
  by_cases hi : i < σ.length
  · have S2 := S.setU (i := i) (o := σ[i])
    rw [List.set_getElem_self] at S2
    exact h Wd B ad H0 H σ D S2 fun o p => (q o p).mono (less_sub fun a z => Zs.set_of (fun _ z => by cases z) z)
  · rw [List.set_eq_of_length_le (by rw [← S.len]; omega)] at h
    exact h Wd B ad H0 H σ D S q
def npsL : List (Str × Int) := [("a", 2), ("b", 1), ("c", 2)]
def absN : List Str := ["a", "b", "c"]
theorem okD_st (n : Nat) (s : Str) : okD n (.str s) = true := by cases n <;> rfl
theorem okD_in (n : Nat) (i : Int) : okD n (.int i) = true := by cases n <;> rfl
theorem okD_map {gl st n : Nat} {m : List (List Fr)} (h : Mp 10 gl st m) (g : gl ≤ 2) (s : st ≤ 2) : okD (n + 3) (mp m) = true := okD_tup (by rw [List.length_map, h.len]; omega) fun x hx => by
  obtain ⟨r, hr, rfl⟩ := List.mem_map.mp hx
  exact okD_frs (by rw [(h.row r hr).1]; omega)
theorem okD_tr : ∀ {t : Tr} {n : Nat}, t.Wf → okD (t.depth + n + 4) t.enc = true
  | .nm s, n, _ => okD_tup (by simp) fun x hx => by
    simp only [List.mem_cons, List.not_mem_nil, or_false] at hx
    rcases hx with rfl | rfl <;> exact okD_st _ _
  | .tm i t, n, h => by
    show okD (t.depth + 1 + n + 4) _ = true
    rw [show t.depth + 1 + n + 4 = (t.depth + n + 4) + 1 by omega]
    refine okD_tup (by simp) fun x hx => ?_
    simp only [List.mem_cons, List.not_mem_nil, or_false] at hx
    rcases hx with rfl | rfl | rfl
    · exact okD_st _ _
    · exact okD_in _ _
    · exact okD_tr h
  | .tn t, n, h => by
    show okD (t.depth + 1 + n + 4) _ = true
    rw [show t.depth + 1 + n + 4 = (t.depth + n + 4) + 1 by omega]
    refine okD_tup (by simp) fun x hx => ?_
    simp only [List.mem_cons, List.not_mem_nil, or_false] at hx
    rcases hx with rfl | rfl
    · exact okD_st _ _
    · exact okD_tr h
  | .cy m t, n, h => by
    obtain ⟨⟨gl, st, hm, g0, g1, s0, s1⟩, h⟩ := h
    show okD (t.depth + 1 + n + 4) _ = true
    rw [show t.depth + 1 + n + 4 = (t.depth + n + 4) + 1 by omega]
    refine okD_tup (by simp) fun x hx => ?_
    simp only [List.mem_cons, List.not_mem_nil, or_false] at hx
    rcases hx with rfl | rfl | rfl
    · exact okD_st _ _
    · exact okD_map (n := t.depth + n + 1) hm g1 s1
    · exact okD_tr h
  | .pr w t u, n, h => by
    show okD (max t.depth u.depth + 1 + n + 4) _ = true
    rw [show max t.depth u.depth + 1 + n + 4 = (max t.depth u.depth + n + 4) + 1 by omega]
    refine okD_tup (by simp) fun x hx => ?_
    simp only [List.mem_cons, List.not_mem_nil, or_false] at hx
    rcases hx with rfl | rfl | rfl
    · exact okD_st _ _
    · rw [show max t.depth u.depth + n + 4 = t.depth + (max t.depth u.depth - t.depth + n) + 4 by omega]; exact okD_tr h.2.1
    · rw [show max t.depth u.depth + n + 4 = u.depth + (max t.depth u.depth - u.depth + n) + 4 by omega]; exact okD_tr h.2.2
theorem okD_row {t : Tr} {n : Nat} (h : t.Wf) : okD (n + 4) t.rowD = true := qt_of (by simp (disch := with_unfolding_all
  cases t with
  | nm s =>
    exact okD_tup (by simp) fun x hx => by
      simp only [List.mem_cons, List.not_mem_nil, or_false] at hx
      rcases hx with rfl | rfl <;> exact okD_st _ _
  | tm i t =>
    exact okD_tup (by simp) fun x hx => by
      simp only [List.mem_cons, List.not_mem_nil, or_false] at hx
      rcases hx with rfl | rfl
      · exact okD_st _ _
      · exact okD_in _ _
  | tn t =>
    exact okD_tup (by simp) fun x hx => by
      simp only [List.mem_cons, List.not_mem_nil, or_false] at hx
      rcases hx with rfl
      exact okD_st _ _
  | cy m t =>
    obtain ⟨⟨gl, st, hm, g0, g1, s0, s1⟩, h⟩ := h
    exact okD_tup (by simp) fun x hx => by
      simp only [List.mem_cons, List.not_mem_nil, or_false] at hx
      rcases hx with rfl | rfl
      · exact okD_st _ _
      · exact okD_map (n := n) hm g1 s1
  | pr w t u =>
    exact okD_tup (by simp) fun x hx => by
      simp only [List.mem_cons, List.not_mem_nil, or_false] at hx
      rcases hx with rfl
      exact okD_st _ _
  ) only [↓qt_eq])
theorem okD_rank {r : Except Ref Int} {n : Nat} : okD (n + 1) (rankD r) = true := qt_of (by simp (disch := with_unfolding_all
  cases r with
  | ok i => exact okD_in _ _
  | error r =>
    cases r <;> exact okD_tup (by simp) fun x hx => by
      simp only [List.mem_cons, List.not_mem_nil, or_false] at hx
      rcases hx with rfl | rfl <;> exact okD_st _ _
  ) only [↓qt_eq])
theorem can_ab : ∀ s ∈ absN, (PyData.str s).canLay0 = true := by
  intro s h
  simp only [absN, List.mem_cons, List.not_mem_nil, or_false] at h
  rcases h with rfl | rfl | rfl <;> decide +kernel
theorem sh_st {s : Str} (h : s ∈ absN) : SeqAt.shaped (.str s) = true := shaped_ok (n := 0) (can_ab s h) rfl (by decide)
theorem sh_sts {l : List Str} (hl : ∀ s ∈ l, s ∈ absN) (h : l.length ≤ 1000000) : SeqAt.shaped (.list (l.map PyData.str)) = true := shaped_ok (n := 1) (can_list fun x hx => by
  obtain ⟨s, m, rfl⟩ := List.mem_map.mp hx
  exact can_ab s (hl s m)) (okD_list (by rw [List.length_map]; exact h) fun x hx => by
  obtain ⟨s, _, rfl⟩ := List.mem_map.mp hx
  rfl) (by decide)
theorem any_sts {l : List Str} {s : Str} : ((l.map PyData.str).any fun z => PyData.eqv z (.str s)) = decide (s ∈ l) := qt_of (by simp (disch := with_unfolding_all
  induction l with
  | nil => rfl
  | cons a l ih =>
    rw [List.map_cons, List.any_cons, ih, eqv_strD]
    by_cases e : a = s
    · subst e; simp
    · have : ¬ s = a := fun z => e z.symm
      simp [e, this]
  ) only [↓qt_eq])
theorem ninL {l : List Str} {s : Str} {P Q : Prop} (hl : ∀ s ∈ l, s ∈ absN) (hs : s ∈ absN) (h : l.length ≤ 1000000) (h1 : s ∉ l → P) (h2 : s ∈ l → Q) : SeqAt.shaped (.str s) = true ∧ SeqAt.shaped (.list (l.map PyData.str)) = true ∧ ∃ c, PyData.bool (if true = true then !((l.map PyData.str).any fun z => PyData.eqv z (.str s)) else (l.map PyData.str).any fun z => PyData.eqv z (.str s)) = .bool c ∧ Cnd c P Q := by
  refine ⟨sh_st hs, sh_sts hl h, _, rfl, ?_⟩
  rw [if_pos rfl, any_sts]
  by_cases e : s ∈ l
  · rw [decide_eq_true e]; exact cnd_f (h2 e)
  · rw [decide_eq_false e]; exact cnd_t (h1 e)
theorem ints_lit (l : List (Str × Int)) : Ints (litS l) := fun s x h => by
  unfold lookS at h
  cases e : (litS l).find? fun p => decide (p.1 = s) with
  | none => rw [e] at h; cases h
  | some p =>
    rw [e] at h
    obtain ⟨q, _, rfl⟩ := List.mem_map.mp (List.mem_of_find?_eq_some e)
    exact ⟨_, (Option.some.inj h).symm⟩
theorem abs_look : ∀ s ∈ absN, (lookS (litS npsL) s).isSome = true := by decide
theorem part_depth {t k : Tr} : k ∈ t.parts → k.depth ≤ t.depth := qt_of (by simp (disch := with_unfolding_all
  induction t with
  | nm s => intro m; rw [List.mem_singleton.mp m]; exact Nat.le_refl _
  | tm n t ih =>
    intro m
    rcases List.mem_append.mp m with m | m
    · exact Nat.le_trans (ih m) (Nat.le_succ _)
    · rw [List.mem_singleton.mp m]; exact Nat.le_refl _
  | tn t ih =>
    intro m
    rcases List.mem_append.mp m with m | m
    · exact Nat.le_trans (ih m) (Nat.le_succ _)
    · rw [List.mem_singleton.mp m]; exact Nat.le_refl _
  | cy n t ih =>
    intro m
    rcases List.mem_append.mp m with m | m
    · exact Nat.le_trans (ih m) (Nat.le_succ _)
    · rw [List.mem_singleton.mp m]; exact Nat.le_refl _
  | pr w t u ih1 ih2 =>
    intro m
    rcases List.mem_append.mp m with m | m
    · rcases List.mem_append.mp m with m | m
      · exact Nat.le_trans (ih1 m) (Nat.le_succ_of_le (Nat.le_max_left ..))
      · exact Nat.le_trans (ih2 m) (Nat.le_succ_of_le (Nat.le_max_right ..))
    · rw [List.mem_singleton.mp m]; exact Nat.le_refl _
  ) only [↓qt_eq])
theorem names_mem : ∀ {ts : List Tr} {s : Str}, s ∈ namesOf ts → ∃ k ∈ ts, k.nameOf = some s := fun {ts s} h => by
  have key : ∀ (l acc : List Str), s ∈ l.foldl addN acc → s ∈ acc ∨ s ∈ l := fun l => by
    induction l with
    | nil => exact fun acc h => .inl h
    | cons a l ih =>
      intro acc h
      rcases ih _ h with h | h
      · unfold addN at h
        split at h
        · exact .inl h
        · rcases List.mem_append.mp h with h | h
          · exact .inl h
          · exact .inr (by rw [List.mem_singleton.mp h]; simp)
      · exact .inr (List.mem_cons_of_mem _ h)
  rcases key _ _ h with h | h
  · cases h
  · obtain ⟨k, hk, e⟩ := List.mem_filterMap.mp h
    exact ⟨k, hk, e⟩
theorem rd_law (ns : List Int) (hl : ns.length ≤ 63) : SW K cs W0 (t_law K) (.d (.list (ns.map PyData.int)) :: .bag :: List.replicate (10 - 2) .un) (fun o => o = .rt (.bool true)) := qt_of (by simp (disch := with_unfolding_all
  unfold t_law
  refine sw_seq ?_
  walk_at "s"
  refine sw_seq (sw_asgF (ef_sdL (l := npsL) (by decide) (by decide) ?_))
  walk_at "s"
  refine sw_cut (fun G => ∃ l : List (Str × Int), (l.map (·.1)).Nodup ∧ G = [.d (.list (ns.map PyData.int)), .bag, .d (.list (npsL.map npD)), .ow (sd (litS l)), .un, .un, .un, .un, .un, .un]) ?_ ?_
  · walk_at "s"
    refine cnd_d (fun _ => ?_) (fun _ => ?_)
    · refine sw_sdPop (i := 3) rfl ?_
      walk_at "s"
      rename_i v v0 v1
      obtain ⟨z, mz, ez⟩ := menu_at (xs := [PyData.str "a", PyData.str "b", PyData.str "c"]) v0 v1
      refine ⟨z, ez, ?_⟩
      obtain ⟨s, rfl, ms⟩ : ∃ s, z = .str s ∧ s ∈ absN := by
        simp only [List.mem_cons, List.not_mem_nil, or_false] at mz
        rcases mz with rfl | rfl | rfl <;> exact ⟨_, rfl, by decide⟩
      refine ⟨s, rfl, abs_look s ms, ?_⟩
      refine x_nx ⟨npsL.filter fun p => decide (p.1 ≠ s), ?_, ?_⟩
      · refine List.Nodup.sublist (List.Sublist.map _ List.filter_sublist) (show (npsL.map (·.1)).Nodup by decide)
      · have e : dropS (litS npsL) s = litS (npsL.filter fun p => decide (p.1 ≠ s)) := by
          unfold dropS litS
          rw [List.filter_map]
          rfl
        rw [e]
        rfl
    · walk_at "s"
      exact ⟨npsL, by decide, rfl⟩
  rintro _ ⟨l, hnd, rfl⟩
  refine sw_seq (sw_asgF (ef_sdCopy (kvs := litS l) (.inl rfl) ?_))
  refine sw_freezeR (i := 3) rfl ?_
  refine sw_freezeR (i := 4) rfl ?_
  refine sw_seq ?_
  walk_at "s"
  have hI := ints_lit l
  refine forN (fun i G => ∃ e5 e6 e7 e8 e9, G = [.d (.list (ns.map PyData.int)), .bag, .d (.list (npsL.map npD)), .rv (ownR K (sd (litS l))), .rv (ownR K (sd (litS l))), e5, e6, e7, e8, e9]) ⟨_, _, _, _, _, rfl⟩ ?_ ?_
  · rintro i _ hi ⟨e5, e6, e7, e8, e9, rfl⟩
    refine gw_name ?_
    refine sw_seq ?_
    walk_at "s"
    rename_i d d0 d1 r r0 r1
    obtain ⟨d, rfl⟩ := Int.eq_ofNat_of_zero_le d0
    obtain ⟨r, rfl⟩ := Int.eq_ofNat_of_zero_le r0
    have ed : (1 : Int) + (d : Int) = ((d + 1 : Nat) : Int) := by omega
    have er : (1 : Int) + (r : Int) = ((r + 1 : Nat) : Int) := by omega
    rw [ed, er]
    refine c_lfit (d := d + 1) (r := r + 1) (nps := npsL) (by omega) (Nat.le_refl _) (by omega) (by decide) ?_ fun t0 hw0 hd0 hf0 => ?_
    · rintro q (rfl | rfl)
      · exact ⟨("b", 1), by decide, rfl⟩
      · exact ⟨("a", 2), by decide, rfl⟩
    have hs0 : t0.Ns absN := hf0.ns
    walk_at "s"
    refine sw_cut (fun G => ∃ (t : Tr) (e5 e7 e8 e9 : En), t.Wf ∧ t.depth ≤ 4 ∧ t.Ns absN ∧ G = [.d (.list (ns.map PyData.int)), .bag, .d (.list (npsL.map npD)), .rv (ownR K (sd (litS l))), .rv (ownR K (sd (litS l))), e5, .d t.enc, e7, e8, e9]) ?_ ?_
    · walk_at "s"
      refine cnd_d (fun _ => ?_) (fun _ => ?_)
      · walk_at "s"
        refine c_ltree (d := 3) (ns := absN) (by omega) (Nat.le_refl _) (by decide) (by decide) fun t hw hd hs => ?_
        walk_at "s"
        exact ⟨t, _, _, _, _, hw, by omega, hs, rfl⟩
      · walk_at "s"
        exact ⟨t0, _, _, _, _, hw0, by omega, hs0, rfl⟩
    clear hs0 hf0 hd0 hw0
    rintro _ ⟨t, e5, e7, e8, e9, hw, hd, hs, rfl⟩
    have hr := tree_room (n := 11) (t := t) (by omega) (Nat.le_refl _)
    refine sw_seq ?_
    walk_at "s"
    refine c_lparts hw (by omega) (Nat.le_refl _) ?_
    walk_at "s"
    refine sw_seq (sw_asgF (ef_lst0 ?_))
    walk_at "s"
    refine sw_seq ?_
    walk_at "s"
    have hb : t.parts.length ≤ 5000 := hr
    have hab : ∀ pre post : List Tr, t.parts = pre ++ post → ∀ s ∈ namesOf pre, s ∈ absN := fun pre post e s m => by
      obtain ⟨k, hk, ek⟩ := names_mem m
      have hk2 : k ∈ t.parts := by rw [e]; exact List.mem_append_left _ hk
      have := Tr.Ns.part hk2 hs
      cases k with
      | nm s' => cases ek; exact this
      | _ => cases ek
    refine forP (f := Tr.enc) (fun pre G => ∃ e9, G = [.d (.list (ns.map PyData.int)), .bag, .d (.list (npsL.map npD)), .rv (ownR K (sd (litS l))), .rv (ownR K (sd (litS l))), e5, .d t.enc, .d (.list (t.parts.map Tr.enc)), .ow (ol ((namesOf pre).map PyData.str)), e9]) ⟨_, rfl⟩ ?_ ?_
    · rintro pre k post _ ek ⟨e9, rfl⟩
      refine gw_name ?_
      have mk : k ∈ t.parts := by rw [ek]; simp
      have kw : k.Wf := Tr.parts_mem mk hw
      have ks := Tr.Ns.part mk hs
      have hl := names_len pre
      have hl2 : pre.length ≤ 5000 := by have := congrArg List.length ek; simp at this; omega
      rw [k.enc_eq]
      walk_at "s"
      refine cnd_d (fun e2 => ?_) fun e2 => ?_
      · obtain ⟨s, rfl⟩ := Tr.at_name kw e2
        walk_at "s"
        refine ninL (hab pre _ ek) ks (by omega) (fun z => ?_) fun z => ?_
        · refine sw_app (i := 8) rfl (by rw [List.length_map]; omega) ?_
          walk_at "s"
          refine ⟨.d (Tr.nm s).enc, ?_⟩
          rw [namesOf_snoc]
          show _ = [_, _, _, _, _, _, _, _, En.ow (ol ((addN (namesOf pre) s).map PyData.str)), _]
          rw [show addN (namesOf pre) s = namesOf pre ++ [s] from if_neg z, List.map_append]
          rfl
        · walk_at "s"
          refine ⟨.d (Tr.nm s).enc, ?_⟩
          rw [namesOf_snoc]
          show _ = [_, _, _, _, _, _, _, _, En.ow (ol ((addN (namesOf pre) s).map PyData.str)), _]
          rw [show addN (namesOf pre) s = namesOf pre from if_pos z]
          rfl
      · walk_at "s"
        refine ⟨.d k.enc, ?_⟩
        rw [namesOf_snoc, k.enc_eq]
        cases k with
        | nm s => exact absurd rfl e2
        | _ => rfl
    · rintro _ ⟨e9, rfl⟩
      have hln := names_len t.parts
      refine sw_freeze (i := 8) rfl ?_
      refine sw_off 9 ?_
      refine sw_seq ?_
      walk_at "s"
      refine c_parts hw (by omega) (Nat.le_refl _) ?_
      walk_at "s"
      refine c_like16 rfl (okD_list (n := 14) (by rw [List.length_map]; omega) fun x hx => ?_) ?_
      · obtain ⟨k, hk, rfl⟩ := List.mem_map.mp hx
        have kd := part_depth hk
        rw [show 14 = k.depth + (10 - k.depth) + 4 by omega]
        exact okD_tr (Tr.parts_mem hk hw)
      walk_at "s"
      refine c_namesIn (χ := fun _ => True) hw (by omega) ?_
      walk_at "s"
      refine c_like16 rfl (okD_list (n := 14) (by rw [List.length_map]; omega) fun x hx => ?_) ?_
      · obtain ⟨k, hk, rfl⟩ := List.mem_map.mp hx
        rfl
      walk_at "s"
      refine sw_seq ?_
      walk_at "s"
      refine c_rowsOf hw (by omega) ?_
      walk_at "s"
      refine lcM Tr.rowD (by omega) (unk1 rfl) (fun k hk => ?_) ?_
      · refine gc_name (by simp) ?_
        walk_at "s"
        exact c_lrow (Tr.parts_mem hk hw) rfl
      walk_at "s"
      refine c_like16 rfl (okD_list (n := 14) (by rw [List.length_map]; omega) fun x hx => ?_) ?_
      · obtain ⟨k, hk, rfl⟩ := List.mem_map.mp hx
        exact okD_row (n := 10) (Tr.parts_mem hk hw)
      walk_at "s"
      refine ew_callE (ma_d (ew_var rfl (ma_r (rw_var rfl (ma_nil ?_)))))
      refine c_told54 hw (by omega) hI ?_
      walk_at "s"
      refine ew_callE (ma_d (ew_var rfl (ma_r (rw_var rfl (ma_nil ?_)))))
      refine c_lrank hw (by omega) (Nat.le_refl _) hI ?_
      walk_at "s"
      refine c_like16 rfl okD_rank ?_
      walk_at "s"
      refine ew_sdNe (l := l) hnd (.inr (.inr rfl)) (.inr (.inr rfl)) ?_
      walk_at "s"
      exact ⟨_, _, _, _, _, rfl⟩
  · rintro _ ⟨e5, e6, e7, e8, e9, rfl⟩
    walk_at "s"
    rfl
  ) only [↓qt_eq])
theorem ok_law (T : TX K mg) {f : Addr} {fd : FuncData} (F : Fun K "law" "law" s_law f fd) : FnOk Pg w K mg base CX0 18 f fd ["_law_script"] (spP K PLaw) :=
  okLawW T.cs F sc_law rfl (by decide) (fun ns hl cdv A outer sh H E hr => ⟨t_law K, (pss_cons (ps_set (i := 1) sc_law.nd rfl (by first | exact Or.inl rfl | exact Or.inr rfl) (pe_call (ok__law_bag T) (hr.mono (by decide)) (by rfl) T.g__law_bag T.F__law_bag.kp T.b__law_bag .nil pass0 (pa_cons (pv 0) pa_nil)))
      (pss_cons (ps_set (i := 2) sc_law.nd rfl (by first | exact Or.inl rfl | exact Or.inr rfl) (pe_lst (pa_cons (pe_tup (pa_cons pe_str (pa_cons pe_int pa_nil))) (pa_cons (pe_tup (pa_cons pe_str (pa_cons pe_int pa_nil))) (pa_cons (pe_tup (pa_cons pe_str (pa_cons pe_int pa_nil))) pa_nil)))))
      (pss_cons (ps_set (i := 3) sc_law.nd rfl (by first | exact Or.inl rfl | exact Or.inr rfl) (pe_disp (pps_cons pe_str pe_int (pps_cons pe_str pe_int (pps_cons pe_str pe_int pps_nil))) (by rfl) (by rfl) (fun z => by cases z) (by decide)))
      (pss_cons (ps_if (pt_cmpR op_eq (pe_call (ok__law_pull T) (hr.mono (by decide)) (by rfl) T.g__law_pull T.F__law_pull.kp T.b__law_pull .nil pass0 (pa_cons (pv 1) (pa_cons pe_int pa_nil))) pe_int (nomark _)) (pss_one (ps_expr (pe_dpop1 (pv 3) (pe_ix ix_seq (pe_lst (pa_cons pe_str (pa_cons pe_str (pa_cons pe_str pa_nil)))) (pe_call (ok__law_pull T) (hr.mono (by decide)) (by rfl) T.g__law_pull T.F__law_pull.kp T.b__law_pull .nil pass0 (pa_cons (pv 1) (pa_cons pe_int pa_nil))) (fun _ _ => rfl)) ⟨by rfl, by rfl, by rfl, by rfl⟩))) pss_nil)
      (pss_cons (ps_set (i := 4) sc_law.nd rfl (by first | exact Or.inl rfl | exact Or.inr rfl) (pe_callTy call_dictC (by rfl) T.n_dict (by decide +kernel) (pa_cons (pv 3) pa_nil)))
      (pss_cons (ps_for PassesOwn.never rfl (pi_range1 (by rfl) T.n_range (pa_cons pe_int pa_nil)) (pg_name (i := 5) sc_law.nd rfl (by first | exact Or.inl rfl | exact Or.inr rfl)) (pss_cons (ps_set (i := 6) sc_law.nd rfl (by first | exact Or.inl rfl | exact Or.inr rfl) (pe_call (ok__law_fit_tree T 8) (hr.mono (by decide)) (by rfl) T.g__law_fit_tree T.F__law_fit_tree.kp T.b__law_fit_tree .nil pass0 (pa_cons (pv 1) (pa_cons (pe_op op_addI pe_int (pe_call (ok__law_pull T) (hr.mono (by decide)) (by rfl) T.g__law_pull T.F__law_pull.kp T.b__law_pull .nil pass0 (pa_cons (pv 1) (pa_cons pe_int pa_nil)))) (pa_cons (pe_op op_addI pe_int (pe_call (ok__law_pull T) (hr.mono (by decide)) (by rfl) T.g__law_pull T.F__law_pull.kp T.b__law_pull .nil pass0 (pa_cons (pv 1) (pa_cons pe_int pa_nil)))) (pa_cons (pv 2) pa_nil))))))
      (pss_cons (ps_if (pt_cmpR op_eq (pv 5) pe_int (nomark _)) (pss_one (ps_set (i := 6) sc_law.nd rfl (by first | exact Or.inl rfl | exact Or.inr rfl) (pe_call (ok__law_tree T 8) (hr.mono (by decide)) (by rfl) T.g__law_tree T.F__law_tree.kp T.b__law_tree .nil pass0 (pa_cons (pv 1) (pa_cons pe_int (pa_cons (pe_lst (pa_cons pe_str (pa_cons pe_str (pa_cons pe_str pa_nil)))) pa_nil)))))) pss_nil)
      (pss_cons (ps_set (i := 7) sc_law.nd rfl (by first | exact Or.inl rfl | exact Or.inr rfl) (pe_call (ok__law_parts T 12) (hr.mono (by decide)) (by rfl) T.g__law_parts T.F__law_parts.kp T.b__law_parts .nil pass0 (pa_cons (pv 6) pa_nil)))
      (pss_cons (ps_set (i := 8) sc_law.nd rfl (by first | exact Or.inl rfl | exact Or.inr rfl) (pe_lst pa_nil))
      (pss_cons (ps_for PassesOwn.never rfl (pi_list (pv 7)) (pg_name (i := 9) sc_law.nd rfl (by first | exact Or.inl rfl | exact Or.inr rfl)) (pss_one (ps_if (PW.pt (pw_and (pt_cmpR op_eq (pe_ix ix_seq (pv 9) pe_int (fun _ _ => rfl)) pe_str (nomark _)) (pw_and1 (pt_cmpR (op_notInS (u65 hr)) (pe_ix ix_seq (pv 9) pe_int (fun _ _ => rfl)) (pv 8) (by rfl))))) (pss_one (ps_expr (pe_bm PySem.F.plainAttrs_list PySem.F.slot_list_append PySem.F.type_list_append mt_append (pv 8) (pa_cons (pe_ix ix_seq (pv 9) pe_int (fun _ _ => rfl)) pa_nil)))) pss_nil)))
      (pss_cons (ps_if (PW.pt (pw_or (pt_not (pt_val (pe_call (ok__law_like T 16) (hr.mono (by decide)) (by rfl) T.g__law_like T.F__law_like.kp T.b__law_like .nil pass0 (pa_cons (pe_call (ok_parts_of T 12) (hr.mono (by decide)) (by rfl) T.g_parts_of T.F_parts_of.kp T.b_parts_of .nil pass0 (pa_cons (pv 6) pa_nil)) (pa_cons (pv 7) pa_nil))))) (pw_or1 (pt_not (pt_val (pe_call (ok__law_like T 16) (hr.mono (by decide)) (by rfl) T.g__law_like T.F__law_like.kp T.b__law_like .nil pass0 (pa_cons (pe_call (ok_names_in T) (hr.mono (by decide)) (by rfl) T.g_names_in T.F_names_in.kp T.b_names_in .nil pass0 (pa_cons (pv 6) pa_nil)) (pa_cons (pv 8) pa_nil)))))))) (pss_one (ps_ret pe_bl)) pss_nil)
      (pss_cons (ps_if (pt_not (pt_val (pe_call (ok__law_like T 16) (hr.mono (by decide)) (by rfl) T.g__law_like T.F__law_like.kp T.b__law_like .nil pass0 (pa_cons (pe_call (ok_rows_of T) (hr.mono (by decide)) (by rfl) T.g_rows_of T.F_rows_of.kp T.b_rows_of .nil pass0 (pa_cons (pv 6) pa_nil)) (pa_cons (pe_lc (own := [("_law_one", 9)]) (g := (gName 9)) (tt := tYes) rfl sc_law.nd (pi_list (pv 7)) (blkOk_by (own := [("_law_one", 9)]) (N := ["_law_script", "_law_bag_here", "_law_names", "_law_ranks", "_law_kept", "_law_turn", "_law_tree_here", "_law_parts_here", "_law_used", "_law_one"]) (sc := defScope s_law) (by decide +kernel)) (fun _ _ _ _ _ => (pg_name (i := 9) sc_law.nd rfl (by first | exact Or.inl rfl | exact Or.inr rfl))) (fun _ _ _ _ _ => pts_nil) (fun _ _ _ _ _ => (pe_call (ok__law_row T) (hr.mono (by decide)) (by rfl) T.g__law_row T.F__law_row.kp T.b__law_row .nil pass0 (pa_cons (pv 9) pa_nil)))) pa_nil))))) (pss_one (ps_ret pe_bl)) pss_nil)
      (pss_one (ps_if (PW.pt (pw_or (pt_not (pt_val (pe_call (ok__law_like T 16) (hr.mono (by decide)) (by rfl) T.g__law_like T.F__law_like.kp T.b__law_like .nil pass0 (pa_cons (pe_call (ok__law_told T) (hr.mono (by decide)) (by rfl) T.g__law_told T.F__law_told.kp T.b__law_told .nil pass0 (pa_cons (pv 6) (pa_cons (pv 3) pa_nil))) (pa_cons (pe_call (ok__law_rank T 12) (hr.mono (by decide)) (by rfl) T.g__law_rank T.F__law_rank.kp T.b__law_rank .nil pass0 (pa_cons (pv 6) (pa_cons (pv 3) pa_nil))) pa_nil))))) (pw_or1 (pt_cmpR (op_ne_dictA (Nat.lt_of_succ_lt (hu_of hr))) (pv 3) (pv 4) (nomark _))))) (pss_one (ps_ret pe_bl)) pss_nil))))))))))
      (pss_one (ps_ret pe_bl)))))))), rd_law ns hl⟩)
end
theorem lel0 {α : Type} {us : List α} (hl : us.length = 0) : us = [] := List.eq_nil_of_length_eq_zero hl
theorem lel1 {α : Type} {us : List α} (hl : us.length = 1) : ∃ a0, us = [a0] := by
  cases us with
  | nil => cases hl
  | cons a0 r => obtain rfl := lel0 (us := r) (Nat.succ.inj hl); exact ⟨a0, rfl⟩
theorem lel2 {α : Type} {us : List α} (hl : us.length = 2) : ∃ a0 a1, us = [a0, a1] := by
  cases us with
  | nil => cases hl
  | cons a0 r => obtain ⟨a1, rfl⟩ := lel1 (us := r) (Nat.succ.inj hl); exact ⟨a0, a1, rfl⟩
theorem lel3 {α : Type} {us : List α} (hl : us.length = 3) : ∃ a0 a1 a2, us = [a0, a1, a2] := by
  cases us with
  | nil => cases hl
  | cons a0 r => obtain ⟨a1, a2, rfl⟩ := lel2 (us := r) (Nat.succ.inj hl); exact ⟨a0, a1, a2, rfl⟩
theorem lel4 {α : Type} {us : List α} (hl : us.length = 4) : ∃ a0 a1 a2 a3, us = [a0, a1, a2, a3] := by
  cases us with
  | nil => cases hl
  | cons a0 r => obtain ⟨a1, a2, a3, rfl⟩ := lel3 (us := r) (Nat.succ.inj hl); exact ⟨a0, a1, a2, a3, rfl⟩
theorem lel5 {α : Type} {us : List α} (hl : us.length = 5) : ∃ a0 a1 a2 a3 a4, us = [a0, a1, a2, a3, a4] := by
  cases us with
  | nil => cases hl
  | cons a0 r => obtain ⟨a1, a2, a3, a4, rfl⟩ := lel4 (us := r) (Nat.succ.inj hl); exact ⟨a0, a1, a2, a3, a4, rfl⟩
theorem lel6 {α : Type} {us : List α} (hl : us.length = 6) : ∃ a0 a1 a2 a3 a4 a5, us = [a0, a1, a2, a3, a4, a5] := by
  cases us with
  | nil => cases hl
  | cons a0 r => obtain ⟨a1, a2, a3, a4, a5, rfl⟩ := lel5 (us := r) (Nat.succ.inj hl); exact ⟨a0, a1, a2, a3, a4, a5, rfl⟩
theorem lel7 {α : Type} {us : List α} (hl : us.length = 7) : ∃ a0 a1 a2 a3 a4 a5 a6, us = [a0, a1, a2, a3, a4, a5, a6] := by
  cases us with
  | nil => cases hl
  | cons a0 r => obtain ⟨a1, a2, a3, a4, a5, a6, rfl⟩ := lel6 (us := r) (Nat.succ.inj hl); exact ⟨a0, a1, a2, a3, a4, a5, a6, rfl⟩
theorem lel8 {α : Type} {us : List α} (hl : us.length = 8) : ∃ a0 a1 a2 a3 a4 a5 a6 a7, us = [a0, a1, a2, a3, a4, a5, a6, a7] := by
  cases us with
  | nil => cases hl
  | cons a0 r => obtain ⟨a1, a2, a3, a4, a5, a6, a7, rfl⟩ := lel7 (us := r) (Nat.succ.inj hl); exact ⟨a0, a1, a2, a3, a4, a5, a6, a7, rfl⟩
theorem all_mk {l : PySem.W.OpenLaw} {w : World} {K : PySem.W.Frag} {h : Heap} {mg : Str → Option Value} {fa f0 f1 f2 f3 f4 f5 f6 f7 f8 f9 f10 f11 f12 f13 f14 f15 f16 f17 f18 f19 f20 f21 f22 f23 : Addr} (X : K.In h) (G : h.Ns mainGlobals mg) (hfa : mg "law" = some (.ref fa))
    {od0 an0 : Option Addr} {sl0 : Array (Option Value)} {oc0 kV0 dc0 pm0 cd0 ct0 : Value}
    {od1 an1 : Option Addr} {sl1 : Array (Option Value)} {oc1 kV1 dc1 pm1 cd1 ct1 : Value}
    {od2 an2 : Option Addr} {sl2 : Array (Option Value)} {oc2 kV2 dc2 pm2 cd2 ct2 : Value}
    {od3 an3 : Option Addr} {sl3 : Array (Option Value)} {oc3 kV3 dc3 pm3 cd3 ct3 : Value}
    {od4 an4 : Option Addr} {sl4 : Array (Option Value)} {oc4 kV4 dc4 pm4 cd4 ct4 : Value}
    {od5 an5 : Option Addr} {sl5 : Array (Option Value)} {oc5 kV5 dc5 pm5 cd5 ct5 : Value}
    {od6 an6 : Option Addr} {sl6 : Array (Option Value)} {oc6 kV6 dc6 pm6 cd6 ct6 : Value}
    {od7 an7 : Option Addr} {sl7 : Array (Option Value)} {oc7 kV7 dc7 pm7 cd7 ct7 : Value}
    {od8 an8 : Option Addr} {sl8 : Array (Option Value)} {oc8 kV8 dc8 pm8 cd8 ct8 : Value}
    {od9 an9 : Option Addr} {sl9 : Array (Option Value)} {oc9 kV9 dc9 pm9 cd9 ct9 : Value}
    {od10 an10 : Option Addr} {sl10 : Array (Option Value)} {oc10 kV10 dc10 pm10 cd10 ct10 : Value}
    {od11 an11 : Option Addr} {sl11 : Array (Option Value)} {oc11 kV11 dc11 pm11 cd11 ct11 : Value}
    {od12 an12 : Option Addr} {sl12 : Array (Option Value)} {oc12 kV12 dc12 pm12 cd12 ct12 : Value}
    {od13 an13 : Option Addr} {sl13 : Array (Option Value)} {oc13 kV13 dc13 pm13 cd13 ct13 : Value}
    {od14 an14 : Option Addr} {sl14 : Array (Option Value)} {oc14 kV14 dc14 pm14 cd14 ct14 : Value}
    {od15 an15 : Option Addr} {sl15 : Array (Option Value)} {oc15 kV15 dc15 pm15 cd15 ct15 : Value}
    {od16 an16 : Option Addr} {sl16 : Array (Option Value)} {oc16 kV16 dc16 pm16 cd16 ct16 : Value}
    {od17 an17 : Option Addr} {sl17 : Array (Option Value)} {oc17 kV17 dc17 pm17 cd17 ct17 : Value}
    {od18 an18 : Option Addr} {sl18 : Array (Option Value)} {oc18 kV18 dc18 pm18 cd18 ct18 : Value}
    {od19 an19 : Option Addr} {sl19 : Array (Option Value)} {oc19 kV19 dc19 pm19 cd19 ct19 : Value}
    {od20 an20 : Option Addr} {sl20 : Array (Option Value)} {oc20 kV20 dc20 pm20 cd20 ct20 : Value}
    {od21 an21 : Option Addr} {sl21 : Array (Option Value)} {oc21 kV21 dc21 pm21 cd21 ct21 : Value}
    {od22 an22 : Option Addr} {sl22 : Array (Option Value)} {oc22 kV22 dc22 pm22 cd22 ct22 : Value}
    {od23 an23 : Option Addr} {sl23 : Array (Option Value)} {oc23 kV23 dc23 pm23 cd23 ct23 : Value}
    {ca0 ci0 : Addr} {cod0 can0 : Option Addr} {csl0 : Array (Option Value)} {coc0 ckV0 cdc0 cpm0 ccd0 cct0 : Value}
    {cT0 : Addr} {cot0 : Value} {codt0 : Option Addr} {cnt0 : Nat} {cslt0 : Array (Option Value)} {ctk0_0 : Tok}
    {ca1 ci1 : Addr} {cod1 can1 : Option Addr} {csl1 : Array (Option Value)} {coc1 ckV1 cdc1 cpm1 ccd1 cct1 : Value}
    {ca2 ci2 : Addr} {cod2 can2 : Option Addr} {csl2 : Array (Option Value)} {coc2 ckV2 cdc2 cpm2 ccd2 cct2 : Value}
    {cT2 : Addr} {cot2 : Value} {codt2 : Option Addr} {cnt2 : Nat} {cslt2 : Array (Option Value)} {ctk2_0 : Tok}
    {ca3 ci3 : Addr} {cod3 can3 : Option Addr} {csl3 : Array (Option Value)} {coc3 ckV3 cdc3 cpm3 ccd3 cct3 : Value}
    (a0 : PySem.W.nsIn K mainGlobals "_law_bag" = some (some (.ref f0))) (l0 : K.lookup f0 = some ⟨oc0, od0, .func (PySem.W.fnOf "_law_bag" "_law_bag" (defArgs s__law_bag) (defBody s__law_bag) (defScope s__law_bag) .none kV0 dc0 pm0 an0 cd0 ct0), sl0⟩) (c0 : PySem.W.codeIn K cd0 "_law_bag" = true) (k0 : PySem.W.keepIn K (.ref f0) = true)
    (a1 : PySem.W.nsIn K mainGlobals "_law_pull" = some (some (.ref f1))) (l1 : K.lookup f1 = some ⟨oc1, od1, .func (PySem.W.fnOf "_law_pull" "_law_pull" (defArgs s__law_pull) (defBody s__law_pull) (defScope s__law_pull) .none kV1 dc1 pm1 an1 cd1 ct1), sl1⟩) (c1 : PySem.W.codeIn K cd1 "_law_pull" = true) (k1 : PySem.W.keepIn K (.ref f1) = true)
    (a2 : PySem.W.nsIn K mainGlobals "_law_gcd" = some (some (.ref f2))) (l2 : K.lookup f2 = some ⟨oc2, od2, .func (PySem.W.fnOf "_law_gcd" "_law_gcd" (defArgs s__law_gcd) (defBody s__law_gcd) (defScope s__law_gcd) .none kV2 dc2 pm2 an2 cd2 ct2), sl2⟩) (c2 : PySem.W.codeIn K cd2 "_law_gcd" = true) (k2 : PySem.W.keepIn K (.ref f2) = true)
    (a3 : PySem.W.nsIn K mainGlobals "_law_frac" = some (some (.ref f3))) (l3 : K.lookup f3 = some ⟨oc3, od3, .func (PySem.W.fnOf "_law_frac" "_law_frac" (defArgs s__law_frac) (defBody s__law_frac) (defScope s__law_frac) .none kV3 dc3 pm3 an3 cd3 ct3), sl3⟩) (c3 : PySem.W.codeIn K cd3 "_law_frac" = true) (k3 : PySem.W.keepIn K (.ref f3) = true)
    (a4 : PySem.W.nsIn K mainGlobals "_law_part" = some (some (.ref f4))) (l4 : K.lookup f4 = some ⟨oc4, od4, .func (PySem.W.fnOf "_law_part" "_law_part" (defArgs s__law_part) (defBody s__law_part) (defScope s__law_part) .none kV4 dc4 pm4 an4 cd4 ct4), sl4⟩) (c4 : PySem.W.codeIn K cd4 "_law_part" = true) (k4 : PySem.W.keepIn K (.ref f4) = true)
    (a5 : PySem.W.nsIn K mainGlobals "_law_whole_part" = some (some (.ref f5))) (l5 : K.lookup f5 = some ⟨oc5, od5, .func (PySem.W.fnOf "_law_whole_part" "_law_whole_part" (defArgs s__law_whole_part) (defBody s__law_whole_part) (defScope s__law_whole_part) .none kV5 dc5 pm5 an5 cd5 ct5), sl5⟩) (c5 : PySem.W.codeIn K cd5 "_law_whole_part" = true) (k5 : PySem.W.keepIn K (.ref f5) = true)
    (a6 : PySem.W.nsIn K mainGlobals "_law_entry" = some (some (.ref f6))) (l6 : K.lookup f6 = some ⟨oc6, od6, .func (PySem.W.fnOf "_law_entry" "_law_entry" (defArgs s__law_entry) (defBody s__law_entry) (defScope s__law_entry) .none kV6 dc6 pm6 an6 cd6 ct6), sl6⟩) (c6 : PySem.W.codeIn K cd6 "_law_entry" = true) (k6 : PySem.W.keepIn K (.ref f6) = true)
    (a7 : PySem.W.nsIn K mainGlobals "_law_map" = some (some (.ref f7))) (l7 : K.lookup f7 = some ⟨oc7, od7, .func (PySem.W.fnOf "_law_map" "_law_map" (defArgs s__law_map) (defBody s__law_map) (defScope s__law_map) .none kV7 dc7 pm7 an7 cd7 ct7), sl7⟩) (c7 : PySem.W.codeIn K cd7 "_law_map" = true) (k7 : PySem.W.keepIn K (.ref f7) = true)
    (a8 : PySem.W.nsIn K mainGlobals "_law_unit" = some (some (.ref f8))) (l8 : K.lookup f8 = some ⟨oc8, od8, .func (PySem.W.fnOf "_law_unit" "_law_unit" (defArgs s__law_unit) (defBody s__law_unit) (defScope s__law_unit) .none kV8 dc8 pm8 an8 cd8 ct8), sl8⟩) (c8 : PySem.W.codeIn K cd8 "_law_unit" = true) (k8 : PySem.W.keepIn K (.ref f8) = true)
    (a9 : PySem.W.nsIn K mainGlobals "_law_fit_tree" = some (some (.ref f9))) (l9 : K.lookup f9 = some ⟨oc9, od9, .func (PySem.W.fnOf "_law_fit_tree" "_law_fit_tree" (defArgs s__law_fit_tree) (defBody s__law_fit_tree) (defScope s__law_fit_tree) .none kV9 dc9 pm9 an9 cd9 ct9), sl9⟩) (c9 : PySem.W.codeIn K cd9 "_law_fit_tree" = true) (k9 : PySem.W.keepIn K (.ref f9) = true)
    (a10 : PySem.W.nsIn K mainGlobals "_law_inner" = some (some (.ref f10))) (l10 : K.lookup f10 = some ⟨oc10, od10, .func (PySem.W.fnOf "_law_inner" "_law_inner" (defArgs s__law_inner) (defBody s__law_inner) (defScope s__law_inner) .none kV10 dc10 pm10 an10 cd10 ct10), sl10⟩) (c10 : PySem.W.codeIn K cd10 "_law_inner" = true) (k10 : PySem.W.keepIn K (.ref f10) = true)
    (a11 : PySem.W.nsIn K mainGlobals "_law_parts" = some (some (.ref f11))) (l11 : K.lookup f11 = some ⟨oc11, od11, .func (PySem.W.fnOf "_law_parts" "_law_parts" (defArgs s__law_parts) (defBody s__law_parts) (defScope s__law_parts) .none kV11 dc11 pm11 an11 cd11 ct11), sl11⟩) (c11 : PySem.W.codeIn K cd11 "_law_parts" = true) (k11 : PySem.W.keepIn K (.ref f11) = true)
    (a12 : PySem.W.nsIn K mainGlobals "_law_tree" = some (some (.ref f12))) (l12 : K.lookup f12 = some ⟨oc12, od12, .func (PySem.W.fnOf "_law_tree" "_law_tree" (defArgs s__law_tree) (defBody s__law_tree) (defScope s__law_tree) .none kV12 dc12 pm12 an12 cd12 ct12), sl12⟩) (c12 : PySem.W.codeIn K cd12 "_law_tree" = true) (k12 : PySem.W.keepIn K (.ref f12) = true)
    (a13 : PySem.W.nsIn K mainGlobals "_law_like" = some (some (.ref f13))) (l13 : K.lookup f13 = some ⟨oc13, od13, .func (PySem.W.fnOf "_law_like" "_law_like" (defArgs s__law_like) (defBody s__law_like) (defScope s__law_like) .none kV13 dc13 pm13 an13 cd13 ct13), sl13⟩) (c13 : PySem.W.codeIn K cd13 "_law_like" = true) (k13 : PySem.W.keepIn K (.ref f13) = true)
    (a14 : PySem.W.nsIn K mainGlobals "row_of" = some (some (.ref f14))) (l14 : K.lookup f14 = some ⟨oc14, od14, .func (PySem.W.fnOf "row_of" "row_of" (defArgs s_row_of) (defBody s_row_of) (defScope s_row_of) .none kV14 dc14 pm14 an14 cd14 ct14), sl14⟩) (c14 : PySem.W.codeIn K cd14 "row_of" = true) (k14 : PySem.W.keepIn K (.ref f14) = true)
    (a15 : PySem.W.nsIn K mainGlobals "inner_of" = some (some (.ref f15))) (l15 : K.lookup f15 = some ⟨oc15, od15, .func (PySem.W.fnOf "inner_of" "inner_of" (defArgs s_inner_of) (defBody s_inner_of) (defScope s_inner_of) .none kV15 dc15 pm15 an15 cd15 ct15), sl15⟩) (c15 : PySem.W.codeIn K cd15 "inner_of" = true) (k15 : PySem.W.keepIn K (.ref f15) = true)
    (a16 : PySem.W.nsIn K mainGlobals "parts_of" = some (some (.ref f16))) (l16 : K.lookup f16 = some ⟨oc16, od16, .func (PySem.W.fnOf "parts_of" "parts_of" (defArgs s_parts_of) (defBody s_parts_of) (defScope s_parts_of) .none kV16 dc16 pm16 an16 cd16 ct16), sl16⟩) (c16 : PySem.W.codeIn K cd16 "parts_of" = true) (k16 : PySem.W.keepIn K (.ref f16) = true)
    (a17 : PySem.W.nsIn K mainGlobals "rows_of" = some (some (.ref f17))) (l17 : K.lookup f17 = some ⟨oc17, od17, .func (PySem.W.fnOf "rows_of" "rows_of" (defArgs s_rows_of) (defBody s_rows_of) (defScope s_rows_of) .none kV17 dc17 pm17 an17 cd17 ct17), sl17⟩) (c17 : PySem.W.codeIn K cd17 "rows_of" = true) (k17 : PySem.W.keepIn K (.ref f17) = true)
    (a18 : PySem.W.nsIn K mainGlobals "names_in" = some (some (.ref f18))) (l18 : K.lookup f18 = some ⟨oc18, od18, .func (PySem.W.fnOf "names_in" "names_in" (defArgs s_names_in) (defBody s_names_in) (defScope s_names_in) .none kV18 dc18 pm18 an18 cd18 ct18), sl18⟩) (c18 : PySem.W.codeIn K cd18 "names_in" = true) (k18 : PySem.W.keepIn K (.ref f18) = true)
    (a19 : PySem.W.nsIn K mainGlobals "_law_row" = some (some (.ref f19))) (l19 : K.lookup f19 = some ⟨oc19, od19, .func (PySem.W.fnOf "_law_row" "_law_row" (defArgs s__law_row) (defBody s__law_row) (defScope s__law_row) .none kV19 dc19 pm19 an19 cd19 ct19), sl19⟩) (c19 : PySem.W.codeIn K cd19 "_law_row" = true) (k19 : PySem.W.keepIn K (.ref f19) = true)
    (a20 : PySem.W.nsIn K mainGlobals "room_of" = some (some (.ref f20))) (l20 : K.lookup f20 = some ⟨oc20, od20, .func (PySem.W.fnOf "room_of" "room_of" (defArgs s_room_of) (defBody s_room_of) (defScope s_room_of) .none kV20 dc20 pm20 an20 cd20 ct20), sl20⟩) (c20 : PySem.W.codeIn K cd20 "room_of" = true) (k20 : PySem.W.keepIn K (.ref f20) = true)
    (a21 : PySem.W.nsIn K mainGlobals "_law_told" = some (some (.ref f21))) (l21 : K.lookup f21 = some ⟨oc21, od21, .func (PySem.W.fnOf "_law_told" "_law_told" (defArgs s__law_told) (defBody s__law_told) (defScope s__law_told) .none kV21 dc21 pm21 an21 cd21 ct21), sl21⟩) (c21 : PySem.W.codeIn K cd21 "_law_told" = true) (k21 : PySem.W.keepIn K (.ref f21) = true)
    (a22 : PySem.W.nsIn K mainGlobals "_law_rank" = some (some (.ref f22))) (l22 : K.lookup f22 = some ⟨oc22, od22, .func (PySem.W.fnOf "_law_rank" "_law_rank" (defArgs s__law_rank) (defBody s__law_rank) (defScope s__law_rank) .none kV22 dc22 pm22 an22 cd22 ct22), sl22⟩) (c22 : PySem.W.codeIn K cd22 "_law_rank" = true) (k22 : PySem.W.keepIn K (.ref f22) = true)
    (a23 : PySem.W.nsIn K mainGlobals "law" = some (some (.ref f23))) (l23 : K.lookup f23 = some ⟨oc23, od23, .func (PySem.W.fnOf "law" "law" (defArgs s_law) (defBody s_law) (defScope s_law) .none kV23 dc23 pm23 an23 cd23 ct23), sl23⟩) (c23 : PySem.W.codeIn K cd23 "law" = true) (k23 : PySem.W.keepIn K (.ref f23) = true)
    (y0g : PySem.W.nsIn K mainGlobals "Missing" = some (some (.ref ca0)))
    (y0o : PySem.W.excOver K ca0 [.type "LookupError", .type "Exception", .type "BaseException", .type "object"] = true)
    (y0m : PySem.W.excInitIn K ca0 [.type "LookupError", .type "Exception", .type "BaseException", .type "object"] "LookupError.__new__" = true)
    (y0h : PySem.W.hasDictIn K ca0 = true)
    (y0s : PySem.W.findIn K (.ref ca0) "__setattr__" = some (some (.builtin "object.__setattr__")))
    (y0x : PySem.W.subIn K (.ref ca0) (.type "BaseException") = some true)
    (y0t : PySem.W.typeIn K (.ref ca0) = some (.type "type"))
    (y0k : PySem.W.keepIn K (.ref ca0) = true)
    (y0i : PySem.W.findIn K (.ref ca0) "__init__" = some (some (.ref ci0)))
    (y0f : PySem.W.typeIn K (.ref ci0) = some (.type "function"))
    (y0l : K.lookup ci0 = some ⟨coc0, cod0, .func (PySem.W.fnOf "__init__" "Missing.__init__" (defArgs si_Missing) (defBody si_Missing) (defScope si_Missing) (.ref cT0) ckV0 cdc0 cpm0 can0 ccd0 cct0), csl0⟩)
    (y0c : PySem.W.codeIn K ccd0 "Missing.__init__" = true)
    (y0p : PySem.W.keepIn K (.ref ci0) = true)
    (y0a : PySem.W.findIn K (.ref ca0) "__getattribute__" = some (some (.builtin "BaseException.__getattribute__")))
    (y0b : PySem.W.findIn K (.ref ca0) "__getattr__" = some none)
    (y0n_name : PySem.W.findIn K (.ref ca0) "name" = some none)
    (y0n_word : PySem.W.findIn K (.ref ca0) "word" = some none)
    (y0r : PySem.W.readsIn K ca0 (.type "type") = true)
    (y0q : PySem.W.specialIn K (.ref ca0) "__getattribute__" = some (some (.builtin "type.__getattribute__")))
    (y0v : PySem.W.findCls K (.ref ca0) (.type "type") "__init__" = some (.val (.ref ci0)))
    (y0d : K.lookup cT0 = some ⟨cot0, codt0, .seq [Value.str "Missing" ctk0_0].toArray cnt0, cslt0⟩)
    (y1g : PySem.W.nsIn K mainGlobals "NoName" = some (some (.ref ca1)))
    (y1o : PySem.W.excOver K ca1 [.type "LookupError", .type "Exception", .type "BaseException", .type "object"] = true)
    (y1m : PySem.W.excInitIn K ca1 [.type "LookupError", .type "Exception", .type "BaseException", .type "object"] "LookupError.__new__" = true)
    (y1h : PySem.W.hasDictIn K ca1 = true)
    (y1s : PySem.W.findIn K (.ref ca1) "__setattr__" = some (some (.builtin "object.__setattr__")))
    (y1x : PySem.W.subIn K (.ref ca1) (.type "BaseException") = some true)
    (y1t : PySem.W.typeIn K (.ref ca1) = some (.type "type"))
    (y1k : PySem.W.keepIn K (.ref ca1) = true)
    (y1i : PySem.W.findIn K (.ref ca1) "__init__" = some (some (.ref ci1)))
    (y1f : PySem.W.typeIn K (.ref ci1) = some (.type "function"))
    (y1l : K.lookup ci1 = some ⟨coc1, cod1, .func (PySem.W.fnOf "__init__" "NoName.__init__" (defArgs si_NoName) (defBody si_NoName) (defScope si_NoName) .none ckV1 cdc1 cpm1 can1 ccd1 cct1), csl1⟩)
    (y1c : PySem.W.codeIn K ccd1 "NoName.__init__" = true)
    (y1p : PySem.W.keepIn K (.ref ci1) = true)
    (y1a : PySem.W.findIn K (.ref ca1) "__getattribute__" = some (some (.builtin "BaseException.__getattribute__")))
    (y1b : PySem.W.findIn K (.ref ca1) "__getattr__" = some none)
    (y1n_name : PySem.W.findIn K (.ref ca1) "name" = some none)
    (y1n_word : PySem.W.findIn K (.ref ca1) "word" = some none)
    (y2g : PySem.W.nsIn K mainGlobals "Unfit" = some (some (.ref ca2)))
    (y2o : PySem.W.excOver K ca2 [.type "ValueError", .type "Exception", .type "BaseException", .type "object"] = true)
    (y2m : PySem.W.excInitIn K ca2 [.type "ValueError", .type "Exception", .type "BaseException", .type "object"] "ValueError.__new__" = true)
    (y2h : PySem.W.hasDictIn K ca2 = true)
    (y2s : PySem.W.findIn K (.ref ca2) "__setattr__" = some (some (.builtin "object.__setattr__")))
    (y2x : PySem.W.subIn K (.ref ca2) (.type "BaseException") = some true)
    (y2t : PySem.W.typeIn K (.ref ca2) = some (.type "type"))
    (y2k : PySem.W.keepIn K (.ref ca2) = true)
    (y2i : PySem.W.findIn K (.ref ca2) "__init__" = some (some (.ref ci2)))
    (y2f : PySem.W.typeIn K (.ref ci2) = some (.type "function"))
    (y2l : K.lookup ci2 = some ⟨coc2, cod2, .func (PySem.W.fnOf "__init__" "Unfit.__init__" (defArgs si_Unfit) (defBody si_Unfit) (defScope si_Unfit) (.ref cT2) ckV2 cdc2 cpm2 can2 ccd2 cct2), csl2⟩)
    (y2c : PySem.W.codeIn K ccd2 "Unfit.__init__" = true)
    (y2p : PySem.W.keepIn K (.ref ci2) = true)
    (y2a : PySem.W.findIn K (.ref ca2) "__getattribute__" = some (some (.builtin "BaseException.__getattribute__")))
    (y2b : PySem.W.findIn K (.ref ca2) "__getattr__" = some none)
    (y2n_word : PySem.W.findIn K (.ref ca2) "word" = some none)
    (y2r : PySem.W.readsIn K ca2 (.type "type") = true)
    (y2q : PySem.W.specialIn K (.ref ca2) "__getattribute__" = some (some (.builtin "type.__getattribute__")))
    (y2v : PySem.W.findCls K (.ref ca2) (.type "type") "__init__" = some (.val (.ref ci2)))
    (y2d : K.lookup cT2 = some ⟨cot2, codt2, .seq [Value.str "Unfit" ctk2_0].toArray cnt2, cslt2⟩)
    (y3g : PySem.W.nsIn K mainGlobals "OtherRoom" = some (some (.ref ca3)))
    (y3o : PySem.W.excOver K ca3 [.type "ValueError", .type "Exception", .type "BaseException", .type "object"] = true)
    (y3m : PySem.W.excInitIn K ca3 [.type "ValueError", .type "Exception", .type "BaseException", .type "object"] "ValueError.__new__" = true)
    (y3h : PySem.W.hasDictIn K ca3 = true)
    (y3s : PySem.W.findIn K (.ref ca3) "__setattr__" = some (some (.builtin "object.__setattr__")))
    (y3x : PySem.W.subIn K (.ref ca3) (.type "BaseException") = some true)
    (y3t : PySem.W.typeIn K (.ref ca3) = some (.type "type"))
    (y3k : PySem.W.keepIn K (.ref ca3) = true)
    (y3i : PySem.W.findIn K (.ref ca3) "__init__" = some (some (.ref ci3)))
    (y3f : PySem.W.typeIn K (.ref ci3) = some (.type "function"))
    (y3l : K.lookup ci3 = some ⟨coc3, cod3, .func (PySem.W.fnOf "__init__" "OtherRoom.__init__" (defArgs si_OtherRoom) (defBody si_OtherRoom) (defScope si_OtherRoom) .none ckV3 cdc3 cpm3 can3 ccd3 cct3), csl3⟩)
    (y3c : PySem.W.codeIn K ccd3 "OtherRoom.__init__" = true)
    (y3p : PySem.W.keepIn K (.ref ci3) = true)
    (y3a : PySem.W.findIn K (.ref ca3) "__getattribute__" = some (some (.builtin "BaseException.__getattribute__")))
    (y3b : PySem.W.findIn K (.ref ca3) "__getattr__" = some none)
    (y3n_word : PySem.W.findIn K (.ref ca3) "word" = some none)
    (e0 : PySem.W.subIn K (.ref ca1) (.ref ca1) = some true)
    (e1 : PySem.W.subIn K (.ref ca3) (.ref ca1) = some false)
    (e2 : PySem.W.subIn K (.ref ca3) (.ref ca3) = some true)
    (z0 : PySem.W.nsIn K mainGlobals "abs" = some none)
    (z1 : PySem.W.nsIn K mainGlobals "all" = some none)
    (z2 : PySem.W.nsIn K mainGlobals "bool" = some none)
    (z3 : PySem.W.nsIn K mainGlobals "dict" = some none)
    (z4 : PySem.W.nsIn K mainGlobals "int" = some none)
    (z5 : PySem.W.nsIn K mainGlobals "isinstance" = some none)
    (z6 : PySem.W.nsIn K mainGlobals "len" = some none)
    (z7 : PySem.W.nsIn K mainGlobals "list" = some none)
    (z8 : PySem.W.nsIn K mainGlobals "max" = some none)
    (z9 : PySem.W.nsIn K mainGlobals "range" = some none)
    (z10 : PySem.W.nsIn K mainGlobals "str" = some none)
    (z11 : PySem.W.nsIn K mainGlobals "tuple" = some none)
    : ∃ fd : FuncData, (∀ (s : Shared) (v : Value), BindsTo s fd ⟨[v], []⟩ [("_law_script", v)]) ∧ ∀ base : Heap, K.In base → base.Ns mainGlobals mg → FnOk l.prog w K mg base CX0 18 fa fd ["_law_script"] (spP K PLaw) := qt_of (by simp (disch := with_unfolding_all
  have e := hfa.symm.trans (PySem.W.mg_of X G a23)
  cases e
  obtain ⟨cs, hc0, hc1, hc2, hc3⟩ : ∃ cs : Cs, cs "Missing" = ca0 ∧ cs "NoName" = ca1 ∧ cs "Unfit" = ca2 ∧ cs "OtherRoom" = ca3 := ⟨fun x => if x = "Missing" then ca0 else if x = "NoName" then ca1 else if x = "Unfit" then ca2 else if x = "OtherRoom" then ca3 else 0, by dsimp only; rw [if_pos rfl], by dsimp only; rw [if_neg (by decide), if_pos rfl], by dsimp only; rw [if_neg (by decide), if_neg (by decide), if_pos rfl], by dsimp only; rw [if_neg (by decide), if_neg (by decide), if_neg (by decide), if_pos rfl]⟩
  subst hc0
  subst hc1
  subst hc2
  subst hc3
  have FI0 := fund_mk (st := si_Missing) (dvs := [V.str "Missing"]) y0l y0c y0p y0d (.cons ⟨_, rfl⟩ .nil) (by simp)
  have ox0 : OxK K (cs "Missing") := ⟨⟨_, _, _, _, PySem.F.excBase_LookupError, PySem.F.store_LookupError, y0o, y0m, y0h, y0s, y0x, y0t, y0k⟩⟩
  have bi0 := binds_all (ps := ["self", "name", "word"]) FI0 (by simp) fun _ _ _ _ _ _ _ us its hl hl2 => by first | (obtain ⟨_, _, _, rfl⟩ := lel3 hl; obtain ⟨_, rfl⟩ := lel1 hl2; exact ⟨_, rfl, rfl⟩) | exact (match us, its, hl, hl2 with | [_, _, _], [_], _, _ => ⟨_, rfl, rfl⟩)
  have cf0 : ClsF K cs "Missing" ["name", "word"] := ⟨ox0, fun n hn => by rcases List.mem_cons.mp hn with rfl | hn; exact y0n_name; rw [List.mem_singleton.mp hn]; exact y0n_word⟩
  have FI1 := fun_mk (st := si_NoName) y1l y1c y1p
  have ox1 : OxK K (cs "NoName") := ⟨⟨_, _, _, _, PySem.F.excBase_LookupError, PySem.F.store_LookupError, y1o, y1m, y1h, y1s, y1x, y1t, y1k⟩⟩
  have bi1 := FI1.binds (ps := ["self", "name"]) fun _ _ _ _ _ _ us hl => by first | (obtain ⟨_, _, rfl⟩ := lel2 hl; exact rfl) | exact (match us, hl with | [_, _], _ => rfl)
  have cf1 : ClsF K cs "NoName" ["name", "word"] := ⟨ox1, fun n hn => by rcases List.mem_cons.mp hn with rfl | hn; exact y1n_name; rw [List.mem_singleton.mp hn]; exact y1n_word⟩
  have FI2 := fund_mk (st := si_Unfit) (dvs := [V.str "Unfit"]) y2l y2c y2p y2d (.cons ⟨_, rfl⟩ .nil) (by simp)
  have ox2 : OxK K (cs "Unfit") := ⟨⟨_, _, _, _, PySem.F.excBase_ValueError, PySem.F.store_ValueError, y2o, y2m, y2h, y2s, y2x, y2t, y2k⟩⟩
  have bi2 := binds_all (ps := ["self", "word"]) FI2 (by simp) fun _ _ _ _ _ _ _ us its hl hl2 => by first | (obtain ⟨_, _, rfl⟩ := lel2 hl; obtain ⟨_, rfl⟩ := lel1 hl2; exact ⟨_, rfl, rfl⟩) | exact (match us, its, hl, hl2 with | [_, _], [_], _, _ => ⟨_, rfl, rfl⟩)
  have cf2 : ClsF K cs "Unfit" ["word"] := ⟨ox2, fun n hn => by rw [List.mem_singleton.mp hn]; exact y2n_word⟩
  have FI3 := fun_mk (st := si_OtherRoom) y3l y3c y3p
  have ox3 : OxK K (cs "OtherRoom") := ⟨⟨_, _, _, _, PySem.F.excBase_ValueError, PySem.F.store_ValueError, y3o, y3m, y3h, y3s, y3x, y3t, y3k⟩⟩
  have bi3 := FI3.binds (ps := ["self"]) fun _ _ _ _ _ _ us hl => by first | (obtain ⟨_, rfl⟩ := lel1 hl; exact rfl) | exact (match us, hl with | [_], _ => rfl)
  have cf3 : ClsF K cs "OtherRoom" ["word"] := ⟨ox3, fun n hn => by rw [List.mem_singleton.mp hn]; exact y3n_word⟩
  have F0 := fun_mk (st := s__law_bag) l0 c0 k0
  have b0 := F0.binds (ps := ["_law_script"]) fun _ _ _ _ _ _ us hl => by first | (obtain ⟨_, rfl⟩ := lel1 hl; exact rfl) | exact (match us, hl with | [_], _ => rfl)
  have F1 := fun_mk (st := s__law_pull) l1 c1 k1
  have b1 := F1.binds (ps := ["_law_bag_here", "_law_size"]) fun _ _ _ _ _ _ us hl => by first | (obtain ⟨_, _, rfl⟩ := lel2 hl; exact rfl) | exact (match us, hl with | [_, _], _ => rfl)
  have F2 := fun_mk (st := s__law_gcd) l2 c2 k2
  have b2 := F2.binds (ps := ["_law_one", "_law_other"]) fun _ _ _ _ _ _ us hl => by first | (obtain ⟨_, _, rfl⟩ := lel2 hl; exact rfl) | exact (match us, hl with | [_, _], _ => rfl)
  have F3 := fun_mk (st := s__law_frac) l3 c3 k3
  have b3 := F3.binds (ps := ["_law_above", "_law_below"]) fun _ _ _ _ _ _ us hl => by first | (obtain ⟨_, _, rfl⟩ := lel2 hl; exact rfl) | exact (match us, hl with | [_, _], _ => rfl)
  have F4 := fun_mk (st := s__law_part) l4 c4 k4
  have b4 := F4.binds (ps := ["_law_bag_here"]) fun _ _ _ _ _ _ us hl => by first | (obtain ⟨_, rfl⟩ := lel1 hl; exact rfl) | exact (match us, hl with | [_], _ => rfl)
  have F5 := fun_mk (st := s__law_whole_part) l5 c5 k5
  have b5 := F5.binds (ps := ["_law_bag_here"]) fun _ _ _ _ _ _ us hl => by first | (obtain ⟨_, rfl⟩ := lel1 hl; exact rfl) | exact (match us, hl with | [_], _ => rfl)
  have F6 := fun_mk (st := s__law_entry) l6 c6 k6
  have b6 := F6.binds (ps := ["_law_bag_here"]) fun _ _ _ _ _ _ us hl => by first | (obtain ⟨_, rfl⟩ := lel1 hl; exact rfl) | exact (match us, hl with | [_], _ => rfl)
  have F7 := fun_mk (st := s__law_map) l7 c7 k7
  have b7 := F7.binds (ps := ["_law_bag_here", "_law_start", "_law_goal"]) fun _ _ _ _ _ _ us hl => by first | (obtain ⟨_, _, _, rfl⟩ := lel3 hl; exact rfl) | exact (match us, hl with | [_, _, _], _ => rfl)
  have F8 := fun_mk (st := s__law_unit) l8 c8 k8
  have b8 := F8.binds (ps := ["_law_rank_here"]) fun _ _ _ _ _ _ us hl => by first | (obtain ⟨_, rfl⟩ := lel1 hl; exact rfl) | exact (match us, hl with | [_], _ => rfl)
  have F9 := fun_mk (st := s__law_fit_tree) l9 c9 k9
  have b9 := F9.binds (ps := ["_law_bag_here", "_law_deep", "_law_rank_here", "_law_names"]) fun _ _ _ _ _ _ us hl => by first | (obtain ⟨_, _, _, _, rfl⟩ := lel4 hl; exact rfl) | exact (match us, hl with | [_, _, _, _], _ => rfl)
  have F10 := fun_mk (st := s__law_inner) l10 c10 k10
  have b10 := F10.binds (ps := ["_law_tree_here"]) fun _ _ _ _ _ _ us hl => by first | (obtain ⟨_, rfl⟩ := lel1 hl; exact rfl) | exact (match us, hl with | [_], _ => rfl)
  have F11 := fun_mk (st := s__law_parts) l11 c11 k11
  have b11 := F11.binds (ps := ["_law_tree_here"]) fun _ _ _ _ _ _ us hl => by first | (obtain ⟨_, rfl⟩ := lel1 hl; exact rfl) | exact (match us, hl with | [_], _ => rfl)
  have F12 := fun_mk (st := s__law_tree) l12 c12 k12
  have b12 := F12.binds (ps := ["_law_bag_here", "_law_deep", "_law_names"]) fun _ _ _ _ _ _ us hl => by first | (obtain ⟨_, _, _, rfl⟩ := lel3 hl; exact rfl) | exact (match us, hl with | [_, _, _], _ => rfl)
  have F13 := fun_mk (st := s__law_like) l13 c13 k13
  have b13 := F13.binds (ps := ["_law_found", "_law_due"]) fun _ _ _ _ _ _ us hl => by first | (obtain ⟨_, _, rfl⟩ := lel2 hl; exact rfl) | exact (match us, hl with | [_, _], _ => rfl)
  have F14 := fun_mk (st := s_row_of) l14 c14 k14
  have b14 := F14.binds (ps := ["tree"]) fun _ _ _ _ _ _ us hl => by first | (obtain ⟨_, rfl⟩ := lel1 hl; exact rfl) | exact (match us, hl with | [_], _ => rfl)
  have F15 := fun_mk (st := s_inner_of) l15 c15 k15
  have b15 := F15.binds (ps := ["tree"]) fun _ _ _ _ _ _ us hl => by first | (obtain ⟨_, rfl⟩ := lel1 hl; exact rfl) | exact (match us, hl with | [_], _ => rfl)
  have F16 := fun_mk (st := s_parts_of) l16 c16 k16
  have b16 := F16.binds (ps := ["tree"]) fun _ _ _ _ _ _ us hl => by first | (obtain ⟨_, rfl⟩ := lel1 hl; exact rfl) | exact (match us, hl with | [_], _ => rfl)
  have F17 := fun_mk (st := s_rows_of) l17 c17 k17
  have b17 := F17.binds (ps := ["tree"]) fun _ _ _ _ _ _ us hl => by first | (obtain ⟨_, rfl⟩ := lel1 hl; exact rfl) | exact (match us, hl with | [_], _ => rfl)
  have F18 := fun_mk (st := s_names_in) l18 c18 k18
  have b18 := F18.binds (ps := ["tree"]) fun _ _ _ _ _ _ us hl => by first | (obtain ⟨_, rfl⟩ := lel1 hl; exact rfl) | exact (match us, hl with | [_], _ => rfl)
  have F19 := fun_mk (st := s__law_row) l19 c19 k19
  have b19 := F19.binds (ps := ["_law_tree_here"]) fun _ _ _ _ _ _ us hl => by first | (obtain ⟨_, rfl⟩ := lel1 hl; exact rfl) | exact (match us, hl with | [_], _ => rfl)
  have F20 := fun_mk (st := s_room_of) l20 c20 k20
  have b20 := F20.binds (ps := ["tree", "rooms"]) fun _ _ _ _ _ _ us hl => by first | (obtain ⟨_, _, rfl⟩ := lel2 hl; exact rfl) | exact (match us, hl with | [_, _], _ => rfl)
  have F21 := fun_mk (st := s__law_told) l21 c21 k21
  have b21 := F21.binds (ps := ["_law_tree_here", "_law_ranks"]) fun _ _ _ _ _ _ us hl => by first | (obtain ⟨_, _, rfl⟩ := lel2 hl; exact rfl) | exact (match us, hl with | [_, _], _ => rfl)
  have F22 := fun_mk (st := s__law_rank) l22 c22 k22
  have b22 := F22.binds (ps := ["_law_tree_here", "_law_ranks"]) fun _ _ _ _ _ _ us hl => by first | (obtain ⟨_, _, rfl⟩ := lel2 hl; exact rfl) | exact (match us, hl with | [_, _], _ => rfl)
  have F23 := fun_mk (st := s_law) l23 c23 k23
  have T : TX K mg := { cs := cs, ox_Missing := ox0, kC_Missing := y0k, fI_Missing := _, dI_Missing := _, FI_Missing := FI0, i_Missing := y0i, ti_Missing := y0f, bi_Missing := bi0, g_Missing := PySem.W.mg_of X G y0g, xf_Missing := ⟨y0a, y0b, y0x, y0h⟩, nw_Missing_name := y0n_name, nw_Missing_word := y0n_word, cf_Missing := cf0, rd_Missing := y0r, ga_Missing := y0q, fc_Missing := y0v, ox_NoName := ox1, kC_NoName := y1k, fI_NoName := _, dI_NoName := _, FI_NoName := FI1, i_NoName := y1i, ti_NoName := y1f, bi_NoName := bi1, g_NoName := PySem.W.mg_of X G y1g, xf_NoName := ⟨y1a, y1b, y1x, y1h⟩, nw_NoName_name := y1n_name, nw_NoName_word := y1n_word, cf_NoName := cf1, ox_Unfit := ox2, kC_Unfit := y2k, fI_Unfit := _, dI_Unfit := _, FI_Unfit := FI2, i_Unfit := y2i, ti_Unfit := y2f, bi_Unfit := bi2, g_Unfit := PySem.W.mg_of X G y2g, xf_Unfit := ⟨y2a, y2b, y2x, y2h⟩, nw_Unfit_word := y2n_word, cf_Unfit := cf2, rd_Unfit := y2r, ga_Unfit := y2q, fc_Unfit := y2v, ox_OtherRoom := ox3, kC_OtherRoom := y3k, fI_OtherRoom := _, dI_OtherRoom := _, FI_OtherRoom := FI3, i_OtherRoom := y3i, ti_OtherRoom := y3f, bi_OtherRoom := bi3, g_OtherRoom := PySem.W.mg_of X G y3g, xf_OtherRoom := ⟨y3a, y3b, y3x, y3h⟩, nw_OtherRoom_word := y3n_word, cf_OtherRoom := cf3, em_NoName_NoName := em_of y1x y1h y1t e0, em_OtherRoom_NoName := em_of y1x y1h y1t e1, em_OtherRoom_OtherRoom := em_of y3x y3h y3t e2, a__law_bag := f0, d__law_bag := _, F__law_bag := F0, g__law_bag := PySem.W.mg_of X G a0, b__law_bag := b0, a__law_pull := f1, d__law_pull := _, F__law_pull := F1, g__law_pull := PySem.W.mg_of X G a1, b__law_pull := b1, a__law_gcd := f2, d__law_gcd := _, F__law_gcd := F2, g__law_gcd := PySem.W.mg_of X G a2, b__law_gcd := b2, a__law_frac := f3, d__law_frac := _, F__law_frac := F3, g__law_frac := PySem.W.mg_of X G a3, b__law_frac := b3, a__law_part := f4, d__law_part := _, F__law_part := F4, g__law_part := PySem.W.mg_of X G a4, b__law_part := b4, a__law_whole_part := f5, d__law_whole_part := _, F__law_whole_part := F5, g__law_whole_part := PySem.W.mg_of X G a5, b__law_whole_part := b5, a__law_entry := f6, d__law_entry := _, F__law_entry := F6, g__law_entry := PySem.W.mg_of X G a6, b__law_entry := b6, a__law_map := f7, d__law_map := _, F__law_map := F7, g__law_map := PySem.W.mg_of X G a7, b__law_map := b7, a__law_unit := f8, d__law_unit := _, F__law_unit := F8, g__law_unit := PySem.W.mg_of X G a8, b__law_unit := b8, a__law_fit_tree := f9, d__law_fit_tree := _, F__law_fit_tree := F9, g__law_fit_tree := PySem.W.mg_of X G a9, b__law_fit_tree := b9, a__law_inner := f10, d__law_inner := _, F__law_inner := F10, g__law_inner := PySem.W.mg_of X G a10, b__law_inner := b10, a__law_parts := f11, d__law_parts := _, F__law_parts := F11, g__law_parts := PySem.W.mg_of X G a11, b__law_parts := b11, a__law_tree := f12, d__law_tree := _, F__law_tree := F12, g__law_tree := PySem.W.mg_of X G a12, b__law_tree := b12, a__law_like := f13, d__law_like := _, F__law_like := F13, g__law_like := PySem.W.mg_of X G a13, b__law_like := b13, a_row_of := f14, d_row_of := _, F_row_of := F14, g_row_of := PySem.W.mg_of X G a14, b_row_of := b14, a_inner_of := f15, d_inner_of := _, F_inner_of := F15, g_inner_of := PySem.W.mg_of X G a15, b_inner_of := b15, a_parts_of := f16, d_parts_of := _, F_parts_of := F16, g_parts_of := PySem.W.mg_of X G a16, b_parts_of := b16, a_rows_of := f17, d_rows_of := _, F_rows_of := F17, g_rows_of := PySem.W.mg_of X G a17, b_rows_of := b17, a_names_in := f18, d_names_in := _, F_names_in := F18, g_names_in := PySem.W.mg_of X G a18, b_names_in := b18, a__law_row := f19, d__law_row := _, F__law_row := F19, g__law_row := PySem.W.mg_of X G a19, b__law_row := b19, a_room_of := f20, d_room_of := _, F_room_of := F20, g_room_of := PySem.W.mg_of X G a20, b_room_of := b20, a__law_told := f21, d__law_told := _, F__law_told := F21, g__law_told := PySem.W.mg_of X G a21, b__law_told := b21, a__law_rank := f22, d__law_rank := _, F__law_rank := F22, g__law_rank := PySem.W.mg_of X G a22, b__law_rank := b22, n_abs := PySem.W.mg_none_of X G z0, n_all := PySem.W.mg_none_of X G z1, n_bool := PySem.W.mg_none_of X G z2, n_dict := PySem.W.mg_none_of X G z3, n_int := PySem.W.mg_none_of X G z4, n_isinstance := PySem.W.mg_none_of X G z5, n_len := PySem.W.mg_none_of X G z6, n_list := PySem.W.mg_none_of X G z7, n_max := PySem.W.mg_none_of X G z8, n_range := PySem.W.mg_none_of X G z9, n_str := PySem.W.mg_none_of X G z10, n_tuple := PySem.W.mg_none_of X G z11 }
  exact ⟨_, fun s v => .of_eq rfl, fun base _ _ => ok_law T F23⟩
  ) only [↓qt_eq])
end Law
end U.N
open PySem PySem.W PyProof.Rows
set_option maxHeartbeats 0 in
theorem PySem.Challenge.cw_umbrage_k54_parts_and_rooms_holds : PySem.Challenge.rw_umbrage_k54_parts_and_rooms.Holds := by
  refine U.head_top ?_
  k_fill
  refine L2.walk_of (l := PySem.Challenge.rw_umbrage_k54_parts_and_rooms) (n := 63) (k := 18) (x := "_law_script") (CX := fun _ => L2.CX0) (sp := fun w => U.spP _ U.PLaw) rfl (by decide) rfl ⟨rfl, by decide, by decide⟩ (fun w h Y => PySem.W.kIn_of Y) ?F (fun _ _ a ns hl _ hS => ⟨fun _ => False, [.list (ns.map PyData.int)], .bool true, fun _ z => z.elim, .cons (.lst (U.less_none hS) (U.dpa_of_ints _)) .nil, ⟨ns, rfl, hl, rfl⟩, fun v H' _ d => by cases d; rfl⟩) (fun _ _ _ _ _ h => h)
  case F =>
    intro w mg fa h KX G hmg
    refine' U.N.Law.all_mk KX G hmg ?a0 ?l0 ?c0 ?k0 ?a1 ?l1 ?c1 ?k1 ?a2 ?l2 ?c2 ?k2 ?a3 ?l3 ?c3 ?k3 ?a4 ?l4 ?c4 ?k4 ?a5 ?l5 ?c5 ?k5 ?a6 ?l6 ?c6 ?k6 ?a7 ?l7 ?c7 ?k7 ?a8 ?l8 ?c8 ?k8 ?a9 ?l9 ?c9 ?k9 ?a10 ?l10 ?c10 ?k10 ?a11 ?l11 ?c11 ?k11 ?a12 ?l12 ?c12 ?k12 ?a13 ?l13 ?c13 ?k13 ?a14 ?l14 ?c14 ?k14 ?a15 ?l15 ?c15 ?k15 ?a16 ?l16 ?c16 ?k16 ?a17 ?l17 ?c17 ?k17 ?a18 ?l18 ?c18 ?k18 ?a19 ?l19 ?c19 ?k19 ?a20 ?l20 ?c20 ?k20 ?a21 ?l21 ?c21 ?k21 ?a22 ?l22 ?c22 ?k22 ?a23 ?l23 ?c23 ?k23 ?y0g ?y0o ?y0m ?y0h ?y0s ?y0x ?y0t ?y0k ?y0i ?y0f ?y0l ?y0c ?y0p ?y0a ?y0b ?y0n_name ?y0n_word ?y0r ?y0q ?y0v ?y0d ?y1g ?y1o ?y1m ?y1h ?y1s ?y1x ?y1t ?y1k ?y1i ?y1f ?y1l ?y1c ?y1p ?y1a ?y1b ?y1n_name ?y1n_word ?y2g ?y2o ?y2m ?y2h ?y2s ?y2x ?y2t ?y2k ?y2i ?y2f ?y2l ?y2c ?y2p ?y2a ?y2b ?y2n_word ?y2r ?y2q ?y2v ?y2d ?y3g ?y3o ?y3m ?y3h ?y3s ?y3x ?y3t ?y3k ?y3i ?y3f ?y3l ?y3c ?y3p ?y3a ?y3b ?y3n_word ?e0 ?e1 ?e2 ?z0 ?z1 ?z2 ?z3 ?z4 ?z5 ?z6 ?z7 ?z8 ?z9 ?z10 ?z11
    (case a0 => k_is); (case l0 => k_is); (case c0 => k_is); (case k0 => k_is); (case a1 => k_is); (case l1 => k_is); (case c1 => k_is); (case k1 => k_is); (case a2 => k_is); (case l2 => k_is); (case c2 => k_is); (case k2 => k_is); (case a3 => k_is); (case l3 => k_is); (case c3 => k_is); (case k3 => k_is); (case a4 => k_is); (case l4 => k_is); (case c4 => k_is); (case k4 => k_is); (case a5 => k_is); (case l5 => k_is); (case c5 => k_is); (case k5 => k_is); (case a6 => k_is); (case l6 => k_is); (case c6 => k_is); (case k6 => k_is); (case a7 => k_is); (case l7 => k_is); (case c7 => k_is); (case k7 => k_is); (case a8 => k_is); (case l8 => k_is); (case c8 => k_is); (case k8 => k_is); (case a9 => k_is); (case l9 => k_is); (case c9 => k_is); (case k9 => k_is); (case a10 => k_is); (case l10 => k_is); (case c10 => k_is); (case k10 => k_is); (case a11 => k_is); (case l11 => k_is); (case c11 => k_is); (case k11 => k_is); (case a12 => k_is); (case l12 => k_is); (case c12 => k_is); (case k12 => k_is); (case a13 => k_is); (case l13 => k_is); (case c13 => k_is); (case k13 => k_is); (case a14 => k_is); (case l14 => k_is); (case c14 => k_is); (case k14 => k_is); (case a15 => k_is); (case l15 => k_is); (case c15 => k_is); (case k15 => k_is); (case a16 => k_is); (case l16 => k_is); (case c16 => k_is); (case k16 => k_is); (case a17 => k_is); (case l17 => k_is); (case c17 => k_is); (case k17 => k_is); (case a18 => k_is); (case l18 => k_is); (case c18 => k_is); (case k18 => k_is); (case a19 => k_is); (case l19 => k_is); (case c19 => k_is); (case k19 => k_is); (case a20 => k_is); (case l20 => k_is); (case c20 => k_is); (case k20 => k_is); (case a21 => k_is); (case l21 => k_is); (case c21 => k_is); (case k21 => k_is); (case a22 => k_is); (case l22 => k_is); (case c22 => k_is); (case k22 => k_is); (case a23 => k_is); (case l23 => k_is); (case c23 => k_is); (case k23 => k_is); (case y0g => k_is); (case y0o => kx_is); (case y0m => kx_is); (case y0h => k_is); (case y0s => k_is); (case y0x => k_is); (case y0t => k_is); (case y0k => k_is); (case y0i => k_is); (case y0f => k_is); (case y0l => k_is); (case y0c => k_is); (case y0p => k_is); (case y0a => k_is); (case y0b => k_is); (case y0n_name => k_is); (case y0n_word => k_is); (case y0r => k_is); (case y0q => k_is); (case y0v => k_is); (case y0d => k_is); (case y1g => k_is); (case y1o => kx_is); (case y1m => kx_is); (case y1h => k_is); (case y1s => k_is); (case y1x => k_is); (case y1t => k_is); (case y1k => k_is); (case y1i => k_is); (case y1f => k_is); (case y1l => k_is); (case y1c => k_is); (case y1p => k_is); (case y1a => k_is); (case y1b => k_is); (case y1n_name => k_is); (case y1n_word => k_is); (case y2g => k_is); (case y2o => kx_is); (case y2m => kx_is); (case y2h => k_is); (case y2s => k_is); (case y2x => k_is); (case y2t => k_is); (case y2k => k_is); (case y2i => k_is); (case y2f => k_is); (case y2l => k_is); (case y2c => k_is); (case y2p => k_is); (case y2a => k_is); (case y2b => k_is); (case y2n_word => k_is); (case y2r => k_is); (case y2q => k_is); (case y2v => k_is); (case y2d => k_is); (case y3g => k_is); (case y3o => kx_is); (case y3m => kx_is); (case y3h => k_is); (case y3s => k_is); (case y3x => k_is); (case y3t => k_is); (case y3k => k_is); (case y3i => k_is); (case y3f => k_is); (case y3l => k_is); (case y3c => k_is); (case y3p => k_is); (case y3a => k_is); (case y3b => k_is); (case y3n_word => k_is); (case e0 => k_is); (case e1 => k_is); (case e2 => k_is); (case z0 => k_is); (case z1 => k_is); (case z2 => k_is); (case z3 => k_is); (case z4 => k_is); (case z5 => k_is); (case z6 => k_is); (case z7 => k_is); (case z8 => k_is); (case z9 => k_is); (case z10 => k_is); (case z11 => k_is)
