import PyProof.Rows.All
import Wide.All
import OpenK.AllK
import Wide.FinOn
import HandS.ForMost
import HandS.WordsExc
import HandS.Defaults
import HandS.Head0
import HandS.Head1
import HandS.Head2
import HandS.HeadEnd
import HandS.HeadHook1
import HandS.HeadHook2
import HandS.Wide
import HandS.Deep
import HandS.Style
import HandS.IsInst
import HandS.TupAny
import HandS.Star
import HandS.Zip
import HandS.Conv
import HandS.Remove
import KE.SortData
import PySem.Challenge.RW_clashsize_k92_whole_ranges_as_parties
set_option Elab.async false
set_option linter.all false
set_option maxRecDepth 100000
set_option maxHeartbeats 0
namespace CS
open PySem PySem.Spec PyProof.Rows L2
def topS (i : Nat) : Stmt := PySem.Challenge.pw_clashsize_k92_whole_ranges_as_parties.main.body.getD i (.Pass ⟨0, 0, 0, 0⟩)
def mkD (x : Str) (i : Nat) : He.DefD := ⟨(x, none), x, x, defArgs (topS i), defBody (topS i), defScope (topS i), [], []⟩
def fnHP0 : List He.DefD := [mkD "is_integer" 12, mkD "are_integers" 13, mkD "common" 14, mkD "divisor_of" 15, mkD "lowest" 16, mkD "added" 17, mkD "scaled" 18, mkD "summed" 19, mkD "is_below" 20, mkD "value_at" 21, mkD "is_kind" 22, mkD "is_book" 23, mkD "is_fraction" 24, mkD "is_rule_of" 25, mkD "are_bounds" 26, mkD "need_book" 27, mkD "need_world" 28, mkD "need_number" 29, mkD "least_bounds" 30, mkD "against" 32]
def fnHP1 : List He.DefD := [mkD "row_of" 33, mkD "with_row" 34, mkD "ways_behind" 35, mkD "positive_ways" 36, mkD "knots_behind" 37, mkD "knots_of" 38, mkD "knots_in" 39, mkD "sum_in" 40, mkD "is_broken" 41, mkD "point_of_rows" 42, mkD "within_bounds" 43, mkD "face_point" 44, mkD "some_point" 45, mkD "taken" 47, mkD "greatest_in" 48, mkD "need_points" 49, mkD "need_one" 51, mkD "tight_in" 52, mkD "tight" 53, mkD "meets" 55]
def fnHP2 : List He.DefD := [mkD "is_party" 59, mkD "need_parties" 60, mkD "need_book_and_parties" 61, mkD "bounds_of" 62, mkD "all_sets" 63, mkD "sets_by" 64, mkD "clashing_sets" 65, mkD "meeting_sets" 66, mkD "all_meet" 67, mkD "party_clashes" 68, mkD "crowds" 69, mkD "fewest_parties_out" 70, mkD "meeting_place" 71, mkD "combined" 72, mkD "with_items" 74, mkD "boxes" 75, mkD "need_ranges" 79, mkD "crowd_in" 80, mkD "pairs_by" 81, mkD "by_ends" 82]
def fnHP3 : List He.DefD := [mkD "apart_in" 83, mkD "roomed" 84, mkD "depth_of" 85, mkD "meeting_pairs" 86, mkD "forced_depth" 87, mkD "apart" 88, mkD "hitting" 89, mkD "have_meetings" 90, mkD "fewest_left" 91, mkD "_law_source" 93, mkD "_law_draw" 94, mkD "_law_spans" 95, mkD "_law_parties_right" 96, mkD "_law_long_right" 97, mkD "law" 98]
def fnH : List He.DefD := fnHP0 ++ fnHP1 ++ fnHP2 ++ fnHP3
def faHP0 : List He.Fa := [.glo "is_integer", .glo "are_integers", .glo "common", .glo "divisor_of", .glo "lowest", .glo "added", .glo "scaled", .glo "summed", .glo "is_below", .glo "value_at", .glo "is_kind", .glo "is_book", .glo "is_fraction", .glo "is_rule_of", .glo "are_bounds", .glo "need_book", .glo "need_world", .glo "need_number", .glo "least_bounds", .glo "against"]
def faHP1 : List He.Fa := [.glo "row_of", .glo "with_row", .glo "ways_behind", .glo "positive_ways", .glo "knots_behind", .glo "knots_of", .glo "knots_in", .glo "sum_in", .glo "is_broken", .glo "point_of_rows", .glo "within_bounds", .glo "face_point", .glo "some_point", .glo "taken", .glo "greatest_in", .glo "need_points", .glo "need_one", .glo "tight_in", .glo "tight", .glo "meets"]
def faHP2 : List He.Fa := [.glo "is_party", .glo "need_parties", .glo "need_book_and_parties", .glo "bounds_of", .glo "all_sets", .glo "sets_by", .glo "clashing_sets", .glo "meeting_sets", .glo "all_meet", .glo "party_clashes", .glo "crowds", .glo "fewest_parties_out", .glo "meeting_place", .glo "combined", .glo "with_items", .glo "boxes", .glo "need_ranges", .glo "crowd_in", .glo "pairs_by", .glo "by_ends"]
def faHP3 : List He.Fa := [.glo "apart_in", .glo "roomed", .glo "depth_of", .glo "meeting_pairs", .glo "forced_depth", .glo "apart", .glo "hitting", .glo "have_meetings", .glo "fewest_left", .glo "_law_source", .glo "_law_draw", .glo "_law_spans", .glo "_law_parties_right", .glo "_law_long_right", .glo "law", .free "isinstance", .free "int", .free "bool", .free "tuple", .free "all"]
def faHP4 : List He.Fa := [.free "len", .free "abs", .free "zip", .free "list", .free "enumerate", .free "any", .free "range", .free "max", .free "sorted", .free "min", .int "MOST_ITEM" 20, .int "MOST_UNKNOWNS" 5, .int "MOST_KINDS" 12, .int "MOST_PARTIES" 8, .int "MOST_IN_PARTY" 12, .int "MOST_RANGES" 400, .int "MOST_NUMBER" 1000000000000]
def faH : List He.Fa := faHP0 ++ faHP1 ++ faHP2 ++ faHP3 ++ faHP4
def lsHP0 : List Str := ["RuleError", "InvalidBook", "InvalidNumber", "InvalidWorld", "NoPoints", "InvalidRanges", "InvalidParties", "MOST_ITEM", "MOST_UNKNOWNS", "MOST_KINDS", "is_integer", "are_integers", "common", "divisor_of", "lowest", "added", "scaled", "summed", "is_below", "value_at"]
def lsHP1 : List Str := ["is_kind", "is_book", "is_fraction", "is_rule_of", "are_bounds", "need_book", "need_world", "need_number", "least_bounds", "against", "row_of", "with_row", "ways_behind", "positive_ways", "knots_behind", "knots_of", "knots_in", "sum_in", "is_broken", "point_of_rows"]
def lsHP2 : List Str := ["within_bounds", "face_point", "some_point", "taken", "greatest_in", "need_points", "need_one", "tight_in", "tight", "meets", "MOST_PARTIES", "MOST_IN_PARTY", "is_party", "need_parties", "need_book_and_parties", "bounds_of", "all_sets", "sets_by", "clashing_sets", "meeting_sets"]
def lsHP3 : List Str := ["all_meet", "party_clashes", "crowds", "fewest_parties_out", "meeting_place", "combined", "with_items", "boxes", "MOST_RANGES", "MOST_NUMBER", "need_ranges", "crowd_in", "pairs_by", "by_ends", "apart_in", "roomed", "depth_of", "meeting_pairs", "forced_depth", "apart"]
def lsHP4 : List Str := ["hitting", "have_meetings", "fewest_left", "_law_source", "_law_draw", "_law_spans", "_law_parties_right", "_law_long_right"]
abbrev lsH : List Str := lsHP0 ++ lsHP1 ++ lsHP2 ++ lsHP3 ++ lsHP4
abbrev rowH : PySem.W.OpenRow := PySem.W.OpenLaw.row PySem.Challenge.rw_clashsize_k92_whole_ranges_as_parties
abbrev hkH : PySem.W.Hook := He.hookD 4 faH fnH
def obH (s : PySem.W.SharedT) : He.AlD := He.obsDG 4 faH fnH (HandSHeadRun.getT s)
theorem obH_eq (s : PySem.W.SharedT) : obH s = hkH.obs s.abs := He.obsDG_eq (HandSHeadRun.getT_eq s)
theorem runH (w : World) : HandSHeadRun.RunEq rowH (PySem.W.view rowH.prog [98]) hkH obH 4000 lsH w := by
  intro os
  kernel_rfl
end CS
set_option Elab.async false
set_option linter.all false
set_option maxRecDepth 100000
set_option maxHeartbeats 4000000
set_option autoImplicit false
namespace CS
open PySem PySem.Spec PyProof.Rows L2
abbrev D := PyData
/-- a slot's content: data, or a list of data of the slot's own that may change -/
inductive W where
  | d (x : D)
  | m (xs : List D)
abbrev En := List (Option W)
/-! ### data over a part of the heap -/
theorem Same.seqT {K : PySem.W.Frag} {H H' : Hp} {a : Addr} {xs : List V} (e : Same H H') (h : SqT K H a xs) : SqT K H' a xs := by
  rcases h with (h | ⟨o, h⟩) | h
  · exact .inl (.inl (e _ _ h))
  · exact .inl (.inr ⟨o, e _ _ h⟩)
  · exact .inr h
theorem Same.seqL {K : PySem.W.Frag} {H H' : Hp} {a : Addr} {xs : List V} (e : Same H H') (h : SqL K H a xs) : SqL K H' a xs := by
  rcases h with (h | ⟨o, h⟩) | h
  · exact .inl (.inl (e _ _ h))
  · exact .inl (.inr ⟨o, e _ _ h⟩)
  · exact .inr h
theorem Same.rd {H H' : Hp} {a : Addr} {u : HO} (e : Same H H') (h : Rd H a u) : Rd H' a u := by
  rcases h with h | ⟨o, h⟩
  · exact .inl (e _ _ h)
  · exact .inr ⟨o, e _ _ h⟩
/-! the data at a value: lists that are tracked, any tuples; the script (locked) is told as a dict of one pair -/
abbrev scr (ns : List Int) : PyData := .dict [(.none, .list (ns.map PyData.int))]
mutual
inductive Dp (K : PySem.W.Frag) (H : Hp) : V → PyData → Prop
  | non : Dp K H .non .none
  | bl (b : Bool) : Dp K H (.bl b) (.bool b)
  | int (i : Int) : Dp K H (.int i) (.int i)
  | str (x : Str) : Dp K H (.str x) (.str x)
  | lst {a : Addr} {xs : List V} {ds : List PyData} : H a = some (.lst xs) → DpAll K H xs ds → Dp K H (.ref a) (.list ds)
  | tup {a : Addr} {xs : List V} {ds : List PyData} : SqT K H a xs → DpAll K H xs ds → Dp K H (.ref a) (.tuple ds)
  | scr {a : Addr} {ns : List Int} : SqL K H a (ns.map V.int) → Dp K H (.ref a) (scr ns)
inductive DpAll (K : PySem.W.Frag) (H : Hp) : List V → List PyData → Prop
  | nil : DpAll K H [] []
  | cons {v : V} {vs : List V} {d : PyData} {ds : List PyData} : Dp K H v d → DpAll K H vs ds → DpAll K H (v :: vs) (d :: ds)
end
mutual
theorem Dp.up {K : PySem.W.Frag} {H : Hp} : ∀ {v : V} {x : D}, CS.Dp K H v x → x.canLay0 = true → L2.Dp K H v x
  | _, _, .non, _ => .non
  | _, _, .bl b, _ => .bl b
  | _, _, .int i, _ => .int i
  | _, _, .str x, _ => .str x
  | _, _, .lst h t, c => .lst (SqL.of h) (DpAll.up t (by simpa [PyData.canLay0] using c))
  | _, _, .tup h t, c => .tup h (DpAll.up t (by simpa [PyData.canLay0] using c))
  | _, _, .scr h, c => by simp [PyData.canLay0] at c
theorem DpAll.up {K : PySem.W.Frag} {H : Hp} : ∀ {vs : List V} {xs : List D}, CS.DpAll K H vs xs → PyData.canLayAll0 xs = true → L2.DpAll K H vs xs
  | _, _, .nil, _ => .nil
  | _, _, .cons h t, c => by
    simp only [PyData.canLayAll0, Bool.and_eq_true] at c
    exact .cons (Dp.up h c.1) (DpAll.up t c.2)
end
mutual
theorem Dpm {K : PySem.W.Frag} {H H' : Hp} (e : Same H H') : ∀ {v : V} {x : D}, Dp K H v x → Dp K H' v x
  | _, _, .non => .non
  | _, _, .bl b => .bl b
  | _, _, .int i => .int i
  | _, _, .str x => .str x
  | _, _, .lst h t => .lst (e _ _ h) (DpmA e t)
  | _, _, .tup h t => .tup (CS.Same.seqT e h) (DpmA e t)
  | _, _, .scr h => .scr (CS.Same.seqL e h)
theorem DpmA {K : PySem.W.Frag} {H H' : Hp} (e : Same H H') : ∀ {vs : List V} {xs : List D}, DpAll K H vs xs → DpAll K H' vs xs
  | _, _, .nil => .nil
  | _, _, .cons h t => .cons (Dpm e h) (DpmA e t)
end
theorem DpAll.len {K : PySem.W.Frag} {H : Hp} : ∀ {vs : List V} {xs : List D}, DpAll K H vs xs → vs.length = xs.length
  | _, _, .nil => rfl
  | _, _, .cons _ t => congrArg (· + 1) (DpAll.len t)
theorem DpAll.get {K : PySem.W.Frag} {H : Hp} : ∀ {vs : List V} {xs : List D} {i : Nat} {x : D}, DpAll K H vs xs → xs[i]? = some x → ∃ v, vs[i]? = some v ∧ Dp K H v x
  | _, _, _, _, .nil, h => by simp at h
  | _, _, 0, _, .cons h _, e => by simp at e; subst e; exact ⟨_, rfl, h⟩
  | _, _, i + 1, _, .cons _ t, e => by
    obtain ⟨v, h1, h2⟩ := DpAll.get (i := i) t (by simpa using e)
    exact ⟨v, by simpa using h1, h2⟩
theorem DpAll.getV {K : PySem.W.Frag} {H : Hp} : ∀ {vs : List V} {xs : List D} {i : Nat} {v : V}, DpAll K H vs xs → vs[i]? = some v → ∃ x, xs[i]? = some x ∧ Dp K H v x
  | _, _, _, _, .nil, h => by simp at h
  | _, _, 0, _, .cons h _, e => by simp at e; subst e; exact ⟨_, rfl, h⟩
  | _, _, i + 1, _, .cons _ t, e => by
    obtain ⟨v, h1, h2⟩ := DpAll.getV (i := i) t (by simpa using e)
    exact ⟨v, by simpa using h1, h2⟩
theorem DpAll.app {K : PySem.W.Frag} {H : Hp} : ∀ {vs ws : List V} {xs ys : List D}, DpAll K H vs xs → DpAll K H ws ys → DpAll K H (vs ++ ws) (xs ++ ys)
  | _, _, _, _, .nil, s => s
  | _, _, _, _, .cons h t, s => .cons h (DpAll.app t s)
theorem DpAll.take {K : PySem.W.Frag} {H : Hp} : ∀ {vs : List V} {xs : List D} (n : Nat), DpAll K H vs xs → DpAll K H (vs.take n) (xs.take n)
  | _, _, 0, _ => .nil
  | _, _, _ + 1, .nil => .nil
  | _, _, n + 1, .cons h t => .cons h (DpAll.take n t)
theorem DpAll.drop {K : PySem.W.Frag} {H : Hp} : ∀ {vs : List V} {xs : List D} (n : Nat), DpAll K H vs xs → DpAll K H (vs.drop n) (xs.drop n)
  | _, _, 0, h => h
  | _, _, _ + 1, .nil => .nil
  | _, _, n + 1, .cons _ t => DpAll.drop n t
theorem DpAll.set {K : PySem.W.Frag} {H : Hp} {v : V} {x : D} (h : Dp K H v x) : ∀ {vs : List V} {xs : List D} (i : Nat), DpAll K H vs xs → DpAll K H (vs.set i v) (xs.set i x)
  | _, _, _, .nil => .nil
  | _, _, 0, .cons _ t => .cons h t
  | _, _, i + 1, .cons g t => .cons g (DpAll.set h i t)
theorem DpAll.rev {K : PySem.W.Frag} {H : Hp} : ∀ {vs : List V} {xs : List D}, DpAll K H vs xs → DpAll K H vs.reverse xs.reverse
  | _, _, .nil => .nil
  | _, _, .cons h t => by
    simp only [List.reverse_cons]
    exact DpAll.app (DpAll.rev t) (.cons h .nil)
theorem DpAll.rep {K : PySem.W.Frag} {H : Hp} {v : V} {x : D} (h : Dp K H v x) : ∀ n : Nat, DpAll K H (List.replicate n v) (List.replicate n x)
  | 0 => .nil
  | n + 1 => .cons h (DpAll.rep h n)
theorem DpAll.ints {K : PySem.W.Frag} {H : Hp} : ∀ ns : List Int, DpAll K H (ns.map V.int) (ns.map PyData.int)
  | [] => .nil
  | n :: r => .cons (.int n) (DpAll.ints r)
/-! ### what a state stands for -/
def WR (K : PySem.W.Frag) (F H : Hp) (v : V) : W → Prop
  | .d x => Dp K F v x
  | .m xs => ∃ a vs, v = .ref a ∧ H a = some (.lst vs) ∧ F a = none ∧ DpAll K F vs xs
/-- the entry: what is data there, the heap there, the slots of lists that the caller keeps -/
structure Bs where
  F0 : Hp
  H0 : Hp
  pins : List (Nat × Addr)
structure Rel (K : PySem.W.Frag) (B : Bs) (σ : L2.St) (ρ : En) (F H : Hp) : Prop where
  sub : Same F H
  f0 : Same B.F0 F
  new : ∀ a, F a ≠ none → B.F0 a ≠ none ∨ B.H0 a = none
  kept : ∀ a o, B.H0 a = some o → (∀ p ∈ B.pins, p.2 ≠ a) → H a = some o
  slot : ∀ (i : Nat) w, ρ[i]? = some (some w) → ∃ v, σ[i]? = some (some v) ∧ WR K F H v w
  own : ∀ (i : Nat) xs a, ρ[i]? = some (some (.m xs)) → σ[i]? = some (some (.ref a)) → B.H0 a = none ∨ (i, a) ∈ B.pins
  sep : ∀ (i j : Nat) xs ys a, ρ[i]? = some (some (.m xs)) → ρ[j]? = some (some (.m ys)) → σ[i]? = some (some (.ref a)) → σ[j]? = some (some (.ref a)) → i = j
  pin : ∀ p ∈ B.pins, σ[p.1]? = some (some (.ref p.2)) ∧ ∃ xs, ρ[p.1]? = some (some (.m xs))
  len : ρ.length = σ.length
section
variable {K : PySem.W.Frag} {B : Bs} {σ : L2.St} {ρ : En} {F H : Hp}
theorem none_of_not {H : Hp} {a : Addr} (h : ¬ H a ≠ none) : H a = none := Classical.byContradiction fun q => h q
theorem Rel.mad (R : Rel K B σ ρ F H) {i : Nat} {xs : List D} (h : ρ[i]? = some (some (.m xs))) : ∃ a vs, σ[i]? = some (some (.ref a)) ∧ H a = some (.lst vs) ∧ F a = none ∧ DpAll K F vs xs := by
  obtain ⟨v, e, a, vs, rfl, h1, h2, h3⟩ := R.slot i _ h
  exact ⟨a, vs, e, h1, h2, h3⟩
theorem Rel.free0 (R : Rel K B σ ρ F H) {p : Addr} (hp : H p = none) : B.H0 p = none := by
  cases q : B.H0 p with
  | none => rfl
  | some o =>
    by_cases hx : ∀ z ∈ B.pins, z.2 ≠ p
    · rw [R.kept p o q hx] at hp; cases hp
    · simp only [Classical.not_forall, Decidable.not_not] at hx
      obtain ⟨z, hz, e⟩ := hx
      obtain ⟨h1, xs, h2⟩ := R.pin z hz
      obtain ⟨a, vs, h3, h4, _, _⟩ := R.mad h2
      rw [h1] at h3; cases h3
      rw [e, hp] at h4; cases h4
theorem same_new {H : Hp} {p : Addr} {o : HO} (h : H p = none) : Same H (upd H p o) := fun b x e => by
  rw [upd_ne (ne_of_none e h)]; exact e
/-- a new object that is data at once -/
theorem Rel.laid (R : Rel K B σ ρ F H) {p : Addr} {o : HO} (hp : H p = none) : Rel K B σ ρ (upd F p o) (upd H p o) ∧ Same F (upd F p o) := by
  have hf : F p = none := R.sub.free hp
  have sF : Same F (upd F p o) := same_new hf
  refine ⟨⟨fun a x e => ?_, fun a x e => sF _ _ (R.f0 _ _ e), fun a e => ?_, fun a x e hx => ?_, fun i w e => ?_, R.own, R.sep, R.pin, R.len⟩, sF⟩
  · by_cases h : a = p
    · subst h; rw [upd_same] at e ⊢; exact e
    · rw [upd_ne h] at e ⊢; exact R.sub _ _ e
  · by_cases h : a = p
    · subst h; exact .inr (R.free0 hp)
    · rw [upd_ne h] at e; exact R.new _ e
  · have := R.kept a x e hx
    rw [upd_ne (ne_of_none this hp)]; exact this
  · obtain ⟨v, h1, h2⟩ := R.slot i w e
    refine ⟨v, h1, ?_⟩
    cases w with
    | d x => exact Dpm sF h2
    | m xs =>
      obtain ⟨a, vs, rfl, h3, h4, h5⟩ := h2
      have ne := ne_of_none h3 hp
      exact ⟨a, vs, rfl, by rw [upd_ne ne]; exact h3, by rw [upd_ne ne]; exact h4, DpmA sF h5⟩
/-- a new object beside -/
theorem Rel.beside (R : Rel K B σ ρ F H) {p : Addr} {o : HO} (hp : H p = none) : Rel K B σ ρ F (upd H p o) := by
  have sH : Same H (upd H p o) := same_new hp
  refine ⟨fun a x e => sH _ _ (R.sub _ _ e), R.f0, R.new, fun a x e hx => sH _ _ (R.kept a x e hx), fun i w e => ?_, R.own, R.sep, R.pin, R.len⟩
  obtain ⟨v, h1, h2⟩ := R.slot i w e
  refine ⟨v, h1, ?_⟩
  cases w with
  | d x => exact h2
  | m xs =>
    obtain ⟨a, vs, rfl, h3, h4, h5⟩ := h2
    exact ⟨a, vs, rfl, sH _ _ h3, h4, h5⟩
/-- a slot takes data -/
theorem Rel.setD (R : Rel K B σ ρ F H) {i : Nat} {v : V} {x : D} (h : Dp K F v x) (hi : ∀ xs, ρ[i]? ≠ some (some (.m xs))) : Rel K B (σ.set i (some v)) (ρ.set i (some (.d x))) F H := by
  have hpin : ∀ p ∈ B.pins, i ≠ p.1 := fun p hp e => let ⟨xs, q⟩ := (R.pin p hp).2; hi xs (e ▸ q)
  refine ⟨R.sub, R.f0, R.new, R.kept, fun j w e => ?_, fun j xs a e1 e2 => ?_, fun j k xs ys a e1 e2 e3 e4 => ?_, fun p hp => ?_, by simp [R.len]⟩
  · by_cases hj : i = j
    · subst hj
      have hl : i < ρ.length := by
        by_cases hl : i < ρ.length
        · exact hl
        · rw [List.getElem?_eq_none (by simpa using hl)] at e; cases e
      rw [List.getElem?_set_self hl] at e
      cases e
      exact ⟨v, by rw [List.getElem?_set_self (by rw [← R.len]; exact hl)], h⟩
    · rw [List.getElem?_set_ne hj] at e ⊢
      exact R.slot j w e
  · by_cases hj : i = j
    · subst hj
      by_cases hl : i < ρ.length
      · rw [List.getElem?_set_self hl] at e1; cases e1
      · rw [List.getElem?_eq_none (by simpa using hl)] at e1; cases e1
    · rw [List.getElem?_set_ne hj] at e1 e2
      exact R.own j xs a e1 e2
  · have hm : ∀ {j : Nat} {xs}, (ρ.set i (some (.d x)))[j]? = some (some (W.m xs)) → i ≠ j := fun {j xs} e hj => by
      subst hj
      by_cases hl : i < ρ.length
      · rw [List.getElem?_set_self hl] at e; cases e
      · rw [List.getElem?_eq_none (by simpa using hl)] at e; cases e
    have n1 := hm e1
    have n2 := hm e2
    rw [List.getElem?_set_ne n1] at e1 e3
    rw [List.getElem?_set_ne n2] at e2 e4
    exact R.sep j k xs ys a e1 e2 e3 e4
  · have := hpin p hp
    rw [List.getElem?_set_ne this, List.getElem?_set_ne this]
    exact R.pin p hp
/-- a slot takes a new list of its own -/
theorem Rel.setM (R : Rel K B σ ρ F H) {i : Nat} {a : Addr} {vs : List V} {xs : List D} (h : DpAll K F vs xs) (ha : H a = some (.lst vs)) (hf : F a = none) (h0 : B.H0 a = none) (hpin : ∀ p ∈ B.pins, i ≠ p.1)
    (no : ∀ (j : Nat) ys, ρ[j]? = some (some (.m ys)) → σ[j]? ≠ some (some (.ref a))) : Rel K B (σ.set i (some (.ref a))) (ρ.set i (some (.m xs))) F H := by
  refine ⟨R.sub, R.f0, R.new, R.kept, fun j w e => ?_, fun j ys b e1 e2 => ?_, fun j k ys zs b e1 e2 e3 e4 => ?_, fun p hp => ?_, by simp [R.len]⟩
  · by_cases hj : i = j
    · subst hj
      have hl : i < ρ.length := by
        by_cases hl : i < ρ.length
        · exact hl
        · rw [List.getElem?_eq_none (by simpa using hl)] at e; cases e
      rw [List.getElem?_set_self hl] at e
      cases e
      exact ⟨_, by rw [List.getElem?_set_self (by rw [← R.len]; exact hl)], a, vs, rfl, ha, hf, h⟩
    · rw [List.getElem?_set_ne hj] at e ⊢
      exact R.slot j w e
  · by_cases hj : i = j
    · subst hj
      by_cases hl : i < σ.length
      · rw [List.getElem?_set_self hl] at e2
        cases e2
        exact .inl h0
      · rw [List.getElem?_eq_none (by simpa using hl)] at e2; cases e2
    · rw [List.getElem?_set_ne hj] at e1 e2
      exact R.own j ys b e1 e2
  · by_cases h1 : i = j
    · by_cases h2 : i = k
      · exact h1.symm.trans h2
      · subst h1
        rw [List.getElem?_set_ne h2] at e2 e4
        by_cases hl : i < σ.length
        · rw [List.getElem?_set_self hl] at e3
          cases e3
          exact absurd e4 (no k zs e2)
        · rw [List.getElem?_eq_none (by simpa using hl)] at e3; cases e3
    · rw [List.getElem?_set_ne h1] at e1 e3
      by_cases h2 : i = k
      · subst h2
        by_cases hl : i < σ.length
        · rw [List.getElem?_set_self hl] at e4
          cases e4
          exact absurd e3 (no j ys e1)
        · rw [List.getElem?_eq_none (by simpa using hl)] at e4; cases e4
      · rw [List.getElem?_set_ne h2] at e2 e4
        exact R.sep j k ys zs b e1 e2 e3 e4
  · have := hpin p hp
    rw [List.getElem?_set_ne this, List.getElem?_set_ne this]
    exact R.pin p hp
/-- the list of a slot changes -/
theorem Rel.chg (R : Rel K B σ ρ F H) {i : Nat} {a : Addr} {vs : List V} {xs xs0 : List D} (h : DpAll K F vs xs) (e0 : ρ[i]? = some (some (.m xs0))) (es : σ[i]? = some (some (.ref a))) :
    Rel K B σ (ρ.set i (some (.m xs))) F (upd H a (.lst vs)) := by
  obtain ⟨a', vs0, e1, e2, e3, e4⟩ := R.mad e0
  rw [es] at e1; cases e1
  have hl : i < ρ.length := by
    by_cases hl : i < ρ.length
    · exact hl
    · rw [List.getElem?_eq_none (by simpa using hl)] at e0; cases e0
  have old : ∀ {j : Nat} {ys}, (ρ.set i (some (.m xs)))[j]? = some (some (W.m ys)) → ∃ zs, ρ[j]? = some (some (W.m zs)) := fun {j ys} e => by
    by_cases hj : i = j
    · subst hj; exact ⟨_, e0⟩
    · rw [List.getElem?_set_ne hj] at e; exact ⟨_, e⟩
  refine ⟨fun b o e => ?_, R.f0, R.new, fun b o e hx => ?_, fun j w e => ?_, fun j ys b q1 q2 => ?_, fun j k ys zs b q1 q2 q3 q4 => ?_, fun p hp => ?_, by simp [R.len]⟩
  · have nb : b ≠ a := fun z => by subst z; rw [e3] at e; cases e
    rw [upd_ne nb]; exact R.sub _ _ e
  · have nb : b ≠ a := fun z => by
      subst z
      rcases R.own i xs0 b e0 es with q | q
      · rw [q] at e; cases e
      · exact hx _ q rfl
    rw [upd_ne nb]; exact R.kept _ _ e hx
  · by_cases hj : i = j
    · subst hj
      rw [List.getElem?_set_self hl] at e; cases e
      exact ⟨_, es, a, vs, rfl, upd_same, e3, h⟩
    · rw [List.getElem?_set_ne hj] at e
      obtain ⟨v, q1, q2⟩ := R.slot j w e
      refine ⟨v, q1, ?_⟩
      cases w with
      | d x => exact q2
      | m ys =>
        obtain ⟨b, us, rfl, q3, q4, q5⟩ := q2
        have nb : b ≠ a := fun z => by subst z; exact hj (R.sep i j _ _ b e0 e es q1)
        exact ⟨b, us, rfl, by rw [upd_ne nb]; exact q3, q4, q5⟩
  · obtain ⟨zs, q3⟩ := old q1
    exact R.own j zs b q3 q2
  · obtain ⟨us, q5⟩ := old q1
    obtain ⟨ws, q6⟩ := old q2
    exact R.sep j k us ws b q5 q6 q3 q4
  · obtain ⟨q1, ys, q2⟩ := R.pin p hp
    refine ⟨q1, ?_⟩
    by_cases hj : i = p.1
    · exact ⟨xs, by rw [← hj, List.getElem?_set_self hl]⟩
    · exact ⟨ys, by rw [List.getElem?_set_ne hj]; exact q2⟩
/-- a slot's list becomes data -/
theorem Rel.frz (R : Rel K B σ ρ F H) {i : Nat} {xs : List D} (e0 : ρ[i]? = some (some (.m xs))) (hpin : ∀ p ∈ B.pins, i ≠ p.1) :
    ∃ F' v, Same F F' ∧ σ[i]? = some (some v) ∧ Dp K F' v (.list xs) ∧ Rel K B σ (ρ.set i (some (.d (.list xs)))) F' H := by
  obtain ⟨a, vs, e1, e2, e3, e4⟩ := R.mad e0
  have hl : i < ρ.length := by
    by_cases hl : i < ρ.length
    · exact hl
    · rw [List.getElem?_eq_none (by simpa using hl)] at e0; cases e0
  have sF : Same F (upd F a (.lst vs)) := same_new e3
  have hd : Dp K (upd F a (.lst vs)) (.ref a) (.list xs) := .lst upd_same (DpmA sF e4)
  refine ⟨upd F a (.lst vs), .ref a, sF, e1, hd, ?_⟩
  have hm : ∀ {j : Nat} {ys}, (ρ.set i (some (.d (.list xs))))[j]? = some (some (W.m ys)) → i ≠ j := fun {j ys} e hj => by
    subst hj
    rw [List.getElem?_set_self hl] at e; cases e
  refine ⟨fun b o e => ?_, fun b o e => sF _ _ (R.f0 _ _ e), fun b e => ?_, R.kept, fun j w e => ?_, fun j ys b q1 q2 => ?_, fun j k ys zs b q1 q2 q3 q4 => ?_, fun p hp => ?_, by simp [R.len]⟩
  · by_cases hb : b = a
    · subst hb; rw [upd_same] at e; cases e; exact e2
    · rw [upd_ne hb] at e; exact R.sub _ _ e
  · by_cases hb : b = a
    · subst hb
      rcases R.own i xs b e0 e1 with q | q
      · exact .inr q
      · exact absurd rfl (hpin _ q)
    · rw [upd_ne hb] at e; exact R.new _ e
  · by_cases hj : i = j
    · subst hj
      rw [List.getElem?_set_self hl] at e; cases e
      exact ⟨_, e1, hd⟩
    · rw [List.getElem?_set_ne hj] at e
      obtain ⟨v, q1, q2⟩ := R.slot j w e
      refine ⟨v, q1, ?_⟩
      cases w with
      | d x => exact Dpm sF q2
      | m ys =>
        obtain ⟨b, us, rfl, q3, q4, q5⟩ := q2
        have nb : b ≠ a := fun z => by subst z; exact hj (R.sep i j _ _ b e0 e e1 q1)
        exact ⟨b, us, rfl, q3, by rw [upd_ne nb]; exact q4, DpmA sF q5⟩
  · have n := hm q1
    rw [List.getElem?_set_ne n] at q1
    exact R.own j ys b q1 q2
  · have n1 := hm q1
    have n2 := hm q2
    rw [List.getElem?_set_ne n1] at q1
    rw [List.getElem?_set_ne n2] at q2
    exact R.sep j k ys zs b q1 q2 q3 q4
  · rw [List.getElem?_set_ne (hpin p hp)]
    exact R.pin p hp
/-! ### another entry -/
def pinsOf (σ : L2.St) (ρ : En) : List (Nat × Addr) := (List.range ρ.length).filterMap fun (i : Nat) => match (ρ[i]? : Option (Option W)), (σ[i]? : Option (Option V)) with
  | some (some (W.m _)), some (some (V.ref a)) => some (i, a)
  | _, _ => none
theorem mem_pinsOf {σ : L2.St} {ρ : En} {i : Nat} {a : Addr} : (i, a) ∈ pinsOf σ ρ ↔ (∃ xs, ρ[i]? = some (some (.m xs))) ∧ σ[i]? = some (some (.ref a)) := by
  unfold pinsOf
  rw [List.mem_filterMap]
  constructor
  · rintro ⟨j, hj, e⟩
    split at e
    · rename_i xs b h1 h2
      cases e
      exact ⟨⟨xs, h1⟩, h2⟩
    · cases e
  · rintro ⟨⟨xs, h1⟩, h2⟩
    have hl : i < ρ.length := by
      by_cases hl : i < ρ.length
      · exact hl
      · rw [List.getElem?_eq_none (by simpa using hl)] at h1; cases h1
    refine ⟨i, List.mem_range.mpr hl, ?_⟩
    rw [h1, h2]
abbrev bsOf (σ : L2.St) (ρ : En) (F H : Hp) : Bs := ⟨F, H, pinsOf σ ρ⟩
theorem Rel.rebase (R : Rel K B σ ρ F H) : Rel K (bsOf σ ρ F H) σ ρ F H where
  sub := R.sub
  f0 := Same.refl F
  new := fun a h => .inl h
  kept := fun a o e _ => e
  slot := R.slot
  own := fun i xs a e1 e2 => .inr (mem_pinsOf.mpr ⟨⟨xs, e1⟩, e2⟩)
  sep := R.sep
  pin := fun p hp => by
    obtain ⟨h1, h2⟩ := mem_pinsOf.mp (show (p.1, p.2) ∈ pinsOf σ ρ from hp)
    exact ⟨h2, h1⟩
  len := R.len
/-- behind a part that was run from another entry: what is no slot's stands -/
theorem Rel.unbase (R : Rel K B σ ρ F H) {σ2 : L2.St} {ρ2 : En} {F2 H2 : Hp} (R2 : Rel K (bsOf σ ρ F H) σ2 ρ2 F2 H2) :
    (∀ a o, B.H0 a = some o → (∀ p ∈ B.pins, p.2 ≠ a) → H2 a = some o) ∧ (∀ a, F2 a ≠ none → B.F0 a ≠ none ∨ B.H0 a = none) ∧ Same B.F0 F2 ∧
    (∀ a, H a = none → B.H0 a = none) ∧ (∀ p ∈ B.pins, p ∈ pinsOf σ ρ) ∧ (∀ p ∈ pinsOf σ ρ, B.H0 p.2 = none ∨ p ∈ B.pins) := by
  have hp : ∀ p ∈ B.pins, p ∈ pinsOf σ ρ := fun p hp => mem_pinsOf.mpr ⟨(R.pin p hp).2, (R.pin p hp).1⟩
  have hq : ∀ p ∈ pinsOf σ ρ, B.H0 p.2 = none ∨ p ∈ B.pins := fun p hp => by
    obtain ⟨⟨xs, h1⟩, h2⟩ := mem_pinsOf.mp (show (p.1, p.2) ∈ pinsOf σ ρ from hp)
    exact R.own _ _ _ h1 h2
  refine ⟨fun a o e hx => ?_, fun a h => ?_, fun b o e => R2.f0 _ _ (R.f0 _ _ e), fun a h => R.free0 h, hp, hq⟩
  · refine R2.kept a o (R.kept a o e hx) fun p hp' z => ?_
    rcases hq p hp' with q | q
    · rw [z, e] at q; cases q
    · exact hx p q z
  · rcases R2.new a h with q | q
    · exact R.new a q
    · exact .inr (R.free0 q)
theorem Rel.back (R : Rel K B σ ρ F H) {σ2 : L2.St} {ρ2 : En} {F2 H2 : Hp} (R2 : Rel K (bsOf σ ρ F H) σ2 ρ2 F2 H2) : Rel K B σ2 ρ2 F2 H2 := by
  obtain ⟨h1, h2, h3, h4, h5, h6⟩ := R.unbase R2
  refine ⟨R2.sub, h3, h2, h1, R2.slot, fun i xs a e1 e2 => ?_, R2.sep, fun p hp => R2.pin p (h5 p hp), R2.len⟩
  rcases R2.own i xs a e1 e2 with q | q
  · exact .inl (h4 a q)
  · exact h6 _ q
/-- what stands beside the slots stands behind such a part -/
theorem Rel.stay {σ2 : L2.St} {ρ2 : En} {F2 H2 : Hp} (R2 : Rel K (bsOf σ ρ F H) σ2 ρ2 F2 H2) {a : Addr} {o : HO} (e : H a = some o) (no : ∀ (j : Nat) ys, ρ[j]? = some (some (.m ys)) → σ[j]? ≠ some (some (.ref a))) : H2 a = some o :=
  R2.kept a o e fun p hp z => by
    obtain ⟨⟨xs, h1⟩, h2⟩ := mem_pinsOf.mp (show (p.1, p.2) ∈ pinsOf σ ρ from hp)
    rw [z] at h2
    exact no _ _ h1 h2
end
end CS
set_option Elab.async false
set_option linter.all false
set_option maxRecDepth 100000
set_option maxHeartbeats 4000000
set_option autoImplicit false
namespace CS
open PySem PySem.Spec PyProof.Rows L2
/-! ### growth by new objects that are data -/
inductive Gr (F H : Hp) : Hp → Hp → Prop
  | refl : Gr F H F H
  | step {F1 H1 : Hp} {p : Addr} {o : HO} : Gr F H F1 H1 → H1 p = none → Gr F H (upd F1 p o) (upd H1 p o)
theorem Rel.gr {K : PySem.W.Frag} {B : Bs} {σ : L2.St} {ρ : En} {F H F' H' : Hp} (R : Rel K B σ ρ F H) (g : Gr F H F' H') : Rel K B σ ρ F' H' ∧ Same F F' := by
  induction g with
  | refl => exact ⟨R, Same.refl _⟩
  | step g hp ih =>
    obtain ⟨R1, s1⟩ := ih
    obtain ⟨R2, s2⟩ := R1.laid (o := by assumption) hp
    exact ⟨R2, s1.trans s2⟩
theorem Gr.one {F H : Hp} {p : Addr} {o : HO} (h : H p = none) : Gr F H (upd F p o) (upd H p o) := .step .refl h
/-! ### readings by a function of the slots -/
abbrev ES (α : Type) := En → Option (α × En)
def eb {α β : Type} (f : ES α) (g : α → ES β) : ES β := fun ρ => match f ρ with
  | some (x, ρ1) => g x ρ1
  | none => none
def ep {α : Type} (x : α) : ES α := fun ρ => some (x, ρ)
def eo {α : Type} (o : Option α) : ES α := fun ρ => match o with
  | some x => some (x, ρ)
  | none => none
theorem eb_some {α β : Type} {f : ES α} {g : α → ES β} {ρ : En} {z : β × En} (h : eb f g ρ = some z) : ∃ x ρ1, f ρ = some (x, ρ1) ∧ g x ρ1 = some z := by
  unfold eb at h
  split at h
  · rename_i x ρ1 e; exact ⟨x, ρ1, e, h⟩
  · cases h
theorem eo_some {α : Type} {o : Option α} {ρ : En} {z : α × En} (h : eo o ρ = some z) : ∃ x, o = some x ∧ z = (x, ρ) := by
  unfold eo at h
  split at h
  · rename_i x; cases h; exact ⟨x, rfl, rfl⟩
  · cases h
section
variable (K : PySem.W.Frag)
/-- data, or a list of a slot as it stands -/
def Bp (F H : Hp) (v : V) (x : D) : Prop := Dp K F v x ∨ ∃ a vs xs, v = .ref a ∧ x = .list xs ∧ H a = some (.lst vs) ∧ DpAll K F vs xs
def tE (f : ES D) : TE := fun σ H Q => ∃ B F ρ, Rel K B σ ρ F H ∧ ∃ x ρ', f ρ = some (x, ρ') ∧ ∀ F' H' v, Same F F' → Rel K B σ ρ' F' H' → Dp K F' v x → Q v H'
def tB (f : ES D) : TE := fun σ H Q => ∃ B F ρ, Rel K B σ ρ F H ∧ ∃ x ρ', f ρ = some (x, ρ') ∧ ∀ F' H' v, Same F F' → Rel K B σ ρ' F' H' → Bp K F' H' v x → Q v H'
def tT (f : ES Bool) : TT := fun σ H Q => ∃ B F ρ, Rel K B σ ρ F H ∧ ∃ x ρ', f ρ = some (x, ρ') ∧ ∀ F' H', Same F F' → Rel K B σ ρ' F' H' → Q x H'
def tAs (f : ES (List D)) : TA := fun σ H Q => ∃ B F ρ, Rel K B σ ρ F H ∧ ∃ x ρ', f ρ = some (x, ρ') ∧ ∀ F' H' v, Same F F' → Rel K B σ ρ' F' H' → DpAll K F' v x → Q v H'
/-- a new list of its own -/
def tN (f : ES (List D)) : TE := fun σ H Q => ∃ B F ρ, Rel K B σ ρ F H ∧ ∃ x ρ', f ρ = some (x, ρ') ∧ ∀ F' H' a vs, Same F F' → Rel K B σ ρ' F' H' → H' a = some (.lst vs) → F' a = none → DpAll K F' vs x →
  B.H0 a = none → (∀ (j : Nat) ys, ρ'[j]? = some (some (.m ys)) → σ[j]? ≠ some (some (.ref a))) → Q (.ref a) H'
end
theorem PEw {X : Cx} {e : Expr} {t t' : TE} (h : PE X e t) (w : ∀ σ H Q, t' σ H Q → t σ H Q) : PE X e t' := ⟨fun pins s σ H Q I q => h.run pins s σ H Q I (w _ _ _ q)⟩
theorem PTw {X : Cx} {e : Expr} {t t' : TT} (h : PT X e t) (w : ∀ σ H Q, t' σ H Q → t σ H Q) : PT X e t' := ⟨fun pins s σ H Q I q => h.run pins s σ H Q I (w _ _ _ q)⟩
theorem PWw {X : Cx} {e : Expr} {t t' : TT} (h : PW X e t) (w : ∀ σ H Q, t' σ H Q → t σ H Q) : PW X e t' := ⟨fun wh pins s σ H Q I q => h.run wh pins s σ H Q I (w _ _ _ q)⟩
theorem PAw {X : Cx} {es : List Expr} {t t' : TA} (h : PA X es t) (w : ∀ σ H Q, t' σ H Q → t σ H Q) : PA X es t' := ⟨fun pos pins s σ H Q I q => h.run pos pins s σ H Q I (w _ _ _ q)⟩
theorem PSw {X : Cx} {st : Stmt} {t t' : TS} (h : PS X st t) (w : ∀ D σ H, t' D σ H → t D σ H) : PS X st t' := ⟨fun pins s σ H D I q => h.run pins s σ H D I (w _ _ _ q)⟩
theorem PSsw {X : Cx} {st : List Stmt} {t t' : TS} (h : PSs X st t) (w : ∀ D σ H, t' D σ H → t D σ H) : PSs X st t' := ⟨fun pins s σ H D I q => h.run pins s σ H D I (w _ _ _ q)⟩
section
variable {K : PySem.W.Frag} {X : Cx}
theorem Bp.m {F H F' H' : Hp} {v : V} {x : D} (b : Bp K F H v x) (s : Same F F') (t : Same H H') : Bp K F' H' v x := by
  rcases b with b | ⟨a, vs, xs, rfl, rfl, h1, h2⟩
  · exact .inl (Dpm s b)
  · exact .inr ⟨a, vs, xs, rfl, rfl, t _ _ h1, DpmA s h2⟩
theorem Bp.dp {F H : Hp} {v : V} {x : D} (b : Bp K F H v x) (s : Same F H) : Dp K H v x := by
  rcases b with b | ⟨a, vs, xs, rfl, rfl, h1, h2⟩
  · exact Dpm s b
  · exact .lst h1 (DpmA s h2)
theorem Bp.list {F H : Hp} {v : V} {xs : List D} (b : Bp K F H v (.list xs)) (s : Same F H) : ∃ a vs, v = .ref a ∧ H a = some (.lst vs) ∧ DpAll K F vs xs := by
  rcases b with b | ⟨a, vs, ys, rfl, e, h1, h2⟩
  · cases b with
    | lst h t => exact ⟨_, _, rfl, s _ _ h, t⟩
  · cases e; exact ⟨a, vs, rfl, h1, h2⟩
theorem Bp.tuple {F H : Hp} {v : V} {xs : List D} (b : Bp K F H v (.tuple xs)) (s : Same F H) : ∃ a vs, v = .ref a ∧ SqT K H a vs ∧ DpAll K F vs xs := by
  rcases b with b | ⟨a, vs, ys, rfl, e, h1, h2⟩
  · cases b with
    | tup h t => exact ⟨_, _, rfl, CS.Same.seqT s h, t⟩
  · cases e
theorem Bp.int {F H : Hp} {v : V} {i : Int} (b : Bp K F H v (.int i)) : v = .int i := by
  rcases b with b | ⟨a, vs, ys, rfl, e, h1, h2⟩
  · cases b; rfl
  · cases e
theorem Bp.bool {F H : Hp} {v : V} {i : Bool} (b : Bp K F H v (.bool i)) : v = .bl i := by
  rcases b with b | ⟨a, vs, ys, rfl, e, h1, h2⟩
  · cases b; rfl
  · cases e
theorem Bp.none {F H : Hp} {v : V} (b : Bp K F H v .none) : v = .non := by
  rcases b with b | ⟨a, vs, ys, rfl, e, h1, h2⟩
  · cases b; rfl
  · cases e
theorem Bp.str {F H : Hp} {v : V} {x : Str} (b : Bp K F H v (.str x)) : v = .str x := by
  rcases b with b | ⟨a, vs, ys, rfl, e, h1, h2⟩
  · cases b; rfl
  · cases e
/-! ### names, constants -/
def eV (i : Nat) : ES D := fun ρ => match ρ[i]? with
  | some (some (.d x)) => some (x, ρ)
  | _ => none
def eM (i : Nat) : ES (List D) := fun ρ => match ρ[i]? with
  | some (some (.m x)) => some (x, ρ)
  | _ => none
def eMb (i : Nat) : ES D := fun ρ => match ρ[i]? with
  | some (some (.m x)) => some (.list x, ρ)
  | _ => none
theorem eV_some {i : Nat} {ρ ρ' : En} {x : D} (h : eV i ρ = some (x, ρ')) : ρ[i]? = some (some (.d x)) ∧ ρ' = ρ := by
  unfold eV at h
  split at h
  · rename_i y e; cases h; exact ⟨e, rfl⟩
  · cases h
theorem eM_some {i : Nat} {ρ ρ' : En} {x : List D} (h : eM i ρ = some (x, ρ')) : ρ[i]? = some (some (.m x)) ∧ ρ' = ρ := by
  unfold eM at h
  split at h
  · rename_i y e; cases h; exact ⟨e, rfl⟩
  · cases h
theorem eMb_some {i : Nat} {ρ ρ' : En} {x : D} (h : eMb i ρ = some (x, ρ')) : ∃ xs, x = .list xs ∧ ρ[i]? = some (some (.m xs)) ∧ ρ' = ρ := by
  unfold eMb at h
  split at h
  · rename_i y e; cases h; exact ⟨_, rfl, e, rfl⟩
  · cases h
theorem w_var {i : Nat} {σ : L2.St} {H : Hp} {Q : VK} (h : tE K (eV i) σ H Q) : tVar i σ H Q := by
  obtain ⟨B, F, ρ, R, x, ρ', e, k⟩ := h
  obtain ⟨e1, rfl⟩ := eV_some e
  obtain ⟨v, h1, h2⟩ := R.slot i _ e1
  exact ⟨v, h1, k F H v (Same.refl _) R h2⟩
theorem w_varb {i : Nat} {σ : L2.St} {H : Hp} {Q : VK} (h : tB K (eMb i) σ H Q) : tVar i σ H Q := by
  obtain ⟨B, F, ρ, R, x, ρ', e, k⟩ := h
  obtain ⟨xs, rfl, e1, rfl⟩ := eMb_some e
  obtain ⟨a, vs, h1, h2, h3, h4⟩ := R.mad e1
  exact ⟨_, h1, k F H _ (Same.refl _) R (.inr ⟨a, vs, xs, rfl, rfl, h2, h4⟩)⟩
theorem dv {e : Expr} {i : Nat} (h : PE X e (tVar i)) : PE X e (tE X.K (eV i)) := PEw h fun _ _ _ => w_var
theorem dmb {e : Expr} {i : Nat} (h : PE X e (tVar i)) : PE X e (tB X.K (eMb i)) := PEw h fun _ _ _ => w_varb
theorem w_con {v : V} {x : D} (hx : ∀ F, Dp K F v x) {σ : L2.St} {H : Hp} {Q : VK} (h : tE K (ep x) σ H Q) : tC v σ H Q := by
  obtain ⟨B, F, ρ, R, y, ρ', e, k⟩ := h
  cases e
  exact k F H v (Same.refl _) R (hx F)
theorem dint {i : Int} {j pos} : PE X (.Constant (.int i) j pos) (tE X.K (ep (.int i))) := PEw pe_int fun _ _ _ => w_con fun _ => .int i
theorem dbl {i : Bool} {j pos} : PE X (.Constant (.bool i) j pos) (tE X.K (ep (.bool i))) := PEw pe_bl fun _ _ _ => w_con fun _ => .bl i
theorem dnone {j pos} : PE X (.Constant .none j pos) (tE X.K (ep .none)) := PEw pe_non fun _ _ _ => w_con fun _ => .non
theorem dstr {i : Str} {j pos} : PE X (.Constant (.str i) j pos) (tE X.K (ep (.str i))) := PEw pe_str fun _ _ _ => w_con fun _ => .str i
theorem dglobI {x : Str} {i : Int} {pos : Pos} (hg : Gl X x) (hm : ∃ t, X.mg x = some (.int i t)) (hd : (x == ("__debug__" : Str)) = false := by decide) : PE X (.Name x pos) (tE X.K (ep (.int i))) := by
  obtain ⟨t, hm⟩ := hm
  exact PEw (pe_glob hg hm (v := .int i) ⟨t, rfl⟩ hd) fun _ _ _ => w_con fun _ => .int i
/-- data is what may be looked at -/
theorem w_b {f : ES D} {σ : L2.St} {H : Hp} {Q : VK} (h : tB K f σ H Q) : tE K f σ H Q := by
  obtain ⟨B, F, ρ, R, y, ρ', e, k⟩ := h
  exact ⟨B, F, ρ, R, y, ρ', e, fun F' H' v s R' d => k F' H' v s R' (.inl d)⟩
theorem db {e : Expr} {f : ES D} (h : PE X e (tE X.K f)) : PE X e (tB X.K f) := PEw h fun _ _ _ => w_b
/-- a new list becomes data -/
def eL (f : ES (List D)) : ES D := fun ρ => match f ρ with
  | some (xs, ρ') => some (.list xs, ρ')
  | none => none
theorem eL_some {f : ES (List D)} {ρ ρ' : En} {x : D} (h : eL f ρ = some (x, ρ')) : ∃ xs, x = .list xs ∧ f ρ = some (xs, ρ') := by
  unfold eL at h
  split at h
  · rename_i xs r e2; cases h; exact ⟨xs, rfl, e2⟩
  · cases h
theorem Rel.take {B : Bs} {σ : L2.St} {ρ : En} {F H : Hp} (R : Rel K B σ ρ F H) {a : Addr} {vs : List V} {xs : List D} (h : H a = some (.lst vs)) (hf : F a = none) (hd : DpAll K F vs xs) (h0 : B.H0 a = none)
    (no : ∀ (j : Nat) ys, ρ[j]? = some (some (.m ys)) → σ[j]? ≠ some (some (.ref a))) : ∃ F', Same F F' ∧ Rel K B σ ρ F' H ∧ Dp K F' (.ref a) (.list xs) := by
  have sF : Same F (upd F a (.lst vs)) := same_new hf
  refine ⟨upd F a (.lst vs), sF, ⟨fun b o e => ?_, fun b o e => sF _ _ (R.f0 _ _ e), fun b e => ?_, R.kept, fun j w e => ?_, R.own, R.sep, R.pin, R.len⟩, .lst upd_same (DpmA sF hd)⟩
  · by_cases hb : b = a
    · subst hb; rw [upd_same] at e; cases e; exact h
    · rw [upd_ne hb] at e; exact R.sub _ _ e
  · by_cases hb : b = a
    · subst hb; exact .inr h0
    · rw [upd_ne hb] at e; exact R.new _ e
  · obtain ⟨v, q1, q2⟩ := R.slot j w e
    refine ⟨v, q1, ?_⟩
    cases w with
    | d x => exact Dpm sF q2
    | m ys =>
      obtain ⟨b, us, rfl, q3, q4, q5⟩ := q2
      have nb : b ≠ a := fun z => by subst z; exact no j ys e q1
      exact ⟨b, us, rfl, q3, by rw [upd_ne nb]; exact q4, DpmA sF q5⟩
theorem w_L {f : ES (List D)} {σ : L2.St} {H : Hp} {Q : VK} (h : tE K (eL f) σ H Q) : tN K f σ H Q := by
  obtain ⟨B, F, ρ, R, y, ρ', e, k⟩ := h
  obtain ⟨xs, rfl, e9⟩ := eL_some e
  refine ⟨B, F, ρ, R, xs, ρ', e9, fun F' H' a vs s R' h1 h2 h3 h4 h5 => ?_⟩
  obtain ⟨F2, s2, R2, d2⟩ := R'.take h1 h2 h3 h4 h5
  exact k F2 H' _ (s.trans s2) R2 d2
theorem dL {e : Expr} {f : ES (List D)} (h : PE X e (tN X.K f)) : PE X e (tE X.K (eL f)) := PEw h fun _ _ _ => w_L
/-! ### two operands -/
/-- what an operation gives on data: data -/
def Op2 (K : PySem.W.Frag) (r : R2) (g : D → D → Option D) : Prop := ∀ F H v u x y z Q, Same F H → Bp K F H v x → Bp K F H u y → g x y = some z → (∀ F' H' w, Gr F H F' H' → Dp K F' w z → Q w H') → r v u H Q
/-- .. a new list -/
def OpN2 (K : PySem.W.Frag) (r : R2) (g : D → D → Option (List D)) : Prop := ∀ F H v u x y z Q, Same F H → Bp K F H v x → Bp K F H u y → g x y = some z → (∀ a vs, H a = none → DpAll K F vs z → Q (.ref a) (upd H a (.lst vs))) → r v u H Q
def Op1 (K : PySem.W.Frag) (r : V → Hp → VK → Prop) (g : D → Option D) : Prop := ∀ F H v x z Q, Same F H → Bp K F H v x → g x = some z → (∀ F' H' w, Gr F H F' H' → Dp K F' w z → Q w H') → r v H Q
def OpN1 (K : PySem.W.Frag) (r : V → Hp → VK → Prop) (g : D → Option (List D)) : Prop := ∀ F H v x z Q, Same F H → Bp K F H v x → g x = some z → (∀ a vs, H a = none → DpAll K F vs z → Q (.ref a) (upd H a (.lst vs))) → r v H Q
def e2 {α : Type} (g : D → D → Option α) (fa fb : ES D) : ES α := eb fa fun x => eb fb fun y => eo (g x y)
def e2L {α : Type} (g : D → D → Option α) (i : Nat) (fb : ES D) : ES α := eb (eM i) fun _ => eb fb fun y => eb (eMb i) fun x => eo (g x y)
def e1 {α : Type} (g : D → Option α) (fa : ES D) : ES α := eb fa fun x => eo (g x)
/-- the general shape: the end at data of F' -/
theorem end1 {B : Bs} {σ : L2.St} {ρ : En} {F0 F H : Hp} {z : D} {Q : VK} (s : Same F0 F) (R : Rel K B σ ρ F H) (k : ∀ F' H' v, Same F0 F' → Rel K B σ ρ F' H' → Dp K F' v z → Q v H') : ∀ F' H' w, Gr F H F' H' → Dp K F' w z → Q w H' := fun F' H' w g d => by
  obtain ⟨R2, s2⟩ := R.gr g
  exact k F' H' w (s.trans s2) R2 d
theorem endN {B : Bs} {σ : L2.St} {ρ : En} {F0 F H : Hp} {z : List D} {Q : VK} (s : Same F0 F) (R : Rel K B σ ρ F H)
    (k : ∀ F' H' a vs, Same F0 F' → Rel K B σ ρ F' H' → H' a = some (.lst vs) → F' a = none → DpAll K F' vs z → B.H0 a = none → (∀ (j : Nat) ys, ρ[j]? = some (some (.m ys)) → σ[j]? ≠ some (some (.ref a))) → Q (.ref a) H') :
    ∀ a vs, H a = none → DpAll K F vs z → Q (.ref a) (upd H a (.lst vs)) := fun a vs hn hd => by
  have hf : F a = none := R.sub.free hn
  refine k F _ a vs s (R.beside hn) upd_same hf hd (R.free0 hn) fun j ys e e' => ?_
  obtain ⟨b, us, q1, q2, _⟩ := R.mad e
  rw [e'] at q1; cases q1
  rw [hn] at q2; cases q2
theorem w_2 {r : R2} {g : D → D → Option D} (o : Op2 K r g) {fa fb : ES D} {σ : L2.St} {H : Hp} {Q : VK} (h : tE K (e2 g fa fb) σ H Q) : tOp r (tE K fa) (tB K fb) σ H Q := by
  obtain ⟨B, F, ρ, R, z, ρ', e, k⟩ := h
  obtain ⟨x, ρ1, qa, e⟩ := eb_some e
  obtain ⟨y, ρ2, qb, e⟩ := eb_some e
  obtain ⟨z', eg, ez⟩ := eo_some e
  cases ez
  refine ⟨B, F, ρ, R, x, ρ1, qa, fun F1 H1 v s1 R1 d1 => ⟨B, F1, ρ1, R1, y, _, qb, fun F2 H2 u s2 R2 d2 => ?_⟩⟩
  exact o F2 H2 v u x y z Q R2.sub (.inl (Dpm s2 d1)) d2 eg (end1 (s1.trans s2) R2 k)
theorem w_N2 {r : R2} {g : D → D → Option (List D)} (o : OpN2 K r g) {fa fb : ES D} {σ : L2.St} {H : Hp} {Q : VK} (h : tN K (e2 g fa fb) σ H Q) : tOp r (tE K fa) (tB K fb) σ H Q := by
  obtain ⟨B, F, ρ, R, z, ρ', e, k⟩ := h
  obtain ⟨x, ρ1, qa, e⟩ := eb_some e
  obtain ⟨y, ρ2, qb, e⟩ := eb_some e
  obtain ⟨z', eg, ez⟩ := eo_some e
  cases ez
  refine ⟨B, F, ρ, R, x, ρ1, qa, fun F1 H1 v s1 R1 d1 => ⟨B, F1, ρ1, R1, y, _, qb, fun F2 H2 u s2 R2 d2 => ?_⟩⟩
  exact o F2 H2 v u x y z Q R2.sub (.inl (Dpm s2 d1)) d2 eg (endN (s1.trans s2) R2 k)
theorem w_2L {r : R2} {g : D → D → Option D} (o : Op2 K r g) {i : Nat} {fb : ES D} {σ : L2.St} {H : Hp} {Q : VK} (h : tE K (e2L g i fb) σ H Q) : tOp r (tVar i) (tB K fb) σ H Q := by
  obtain ⟨B, F, ρ, R, z, ρ', e, k⟩ := h
  obtain ⟨x0, ρ0, q0, e3⟩ := eb_some e
  obtain ⟨q1, rfl⟩ := eM_some q0
  obtain ⟨y, ρ2, qb, e4⟩ := eb_some e3
  obtain ⟨x, ρ3, q2, e5⟩ := eb_some e4
  obtain ⟨xs, rfl, qm, rfl⟩ := eMb_some q2
  obtain ⟨z', eg, ez⟩ := eo_some e5
  cases ez
  obtain ⟨a, _, hv, _⟩ := R.mad q1
  refine ⟨_, hv, ⟨B, F, ρ0, R, y, _, qb, fun F2 H2 u s2 R2 d2 => ?_⟩⟩
  obtain ⟨a, vs, h1, h2, h3, h4⟩ := R2.mad qm
  rw [hv] at h1; cases h1
  exact o F2 H2 _ u _ y z Q R2.sub (.inr ⟨_, vs, xs, rfl, rfl, h2, h4⟩) d2 eg (end1 s2 R2 k)
theorem w_1 {r : V → Hp → VK → Prop} {g : D → Option D} (o : Op1 K r g) {fa : ES D} {σ : L2.St} {H : Hp} {Q : VK} (h : tE K (e1 g fa) σ H Q) : tB K fa σ H (fun v H1 => r v H1 Q) := by
  obtain ⟨B, F, ρ, R, z, ρ', e, k⟩ := h
  obtain ⟨x, ρ1, qa, e⟩ := eb_some e
  obtain ⟨z', eg, ez⟩ := eo_some e
  cases ez
  exact ⟨B, F, ρ, R, x, _, qa, fun F1 H1 v s1 R1 d1 => o F1 H1 v x z Q R1.sub d1 eg (end1 s1 R1 k)⟩
theorem w_N1 {r : V → Hp → VK → Prop} {g : D → Option (List D)} (o : OpN1 K r g) {fa : ES D} {σ : L2.St} {H : Hp} {Q : VK} (h : tN K (e1 g fa) σ H Q) : tB K fa σ H (fun v H1 => r v H1 Q) := by
  obtain ⟨B, F, ρ, R, z, ρ', e, k⟩ := h
  obtain ⟨x, ρ1, qa, e⟩ := eb_some e
  obtain ⟨z', eg, ez⟩ := eo_some e
  cases ez
  exact ⟨B, F, ρ, R, x, _, qa, fun F1 H1 v s1 R1 d1 => o F1 H1 v x z Q R1.sub d1 eg (endN s1 R1 k)⟩
/-- forms -/
theorem d2 {op : Operator} {a b : Expr} {pos : Pos} {r : R2} {g : D → D → Option D} {fa fb : ES D} (o : Op2 X.K r g) (h : OpR X (binaryOp op) r) (ha : PE X a (tE X.K fa)) (hb : PE X b (tB X.K fb)) : PE X (.BinOp a op b pos) (tE X.K (e2 g fa fb)) := PEw (pe_op h ha hb) fun _ _ _ => w_2 o
theorem d2N {op : Operator} {a b : Expr} {pos : Pos} {r : R2} {g : D → D → Option (List D)} {fa fb : ES D} (o : OpN2 X.K r g) (h : OpR X (binaryOp op) r) (ha : PE X a (tE X.K fa)) (hb : PE X b (tB X.K fb)) : PE X (.BinOp a op b pos) (tN X.K (e2 g fa fb)) := PEw (pe_op h ha hb) fun _ _ _ => w_N2 o
theorem dc {op : CmpOp} {a b : Expr} {pos : Pos} {r : R2} {g : D → D → Option D} {fa fb : ES D} (o : Op2 X.K r g) (h : OpR X (compareOp op) r) (ha : PE X a (tE X.K fa)) (hb : PE X b (tB X.K fb)) (hm : behindInMarks op b = false) : PE X (.Compare a [op] [b] pos) (tE X.K (e2 g fa fb)) := PEw (pe_cmpR h ha hb hm) fun _ _ _ => w_2 o
theorem dcL {op : CmpOp} {a b : Expr} {pos : Pos} {r : R2} {g : D → D → Option D} {i : Nat} {fb : ES D} (o : Op2 X.K r g) (h : OpR X (compareOp op) r) (ha : PE X a (tVar i)) (hb : PE X b (tB X.K fb)) (hm : behindInMarks op b = false) : PE X (.Compare a [op] [b] pos) (tE X.K (e2L g i fb)) := PEw (pe_cmpR h ha hb hm) fun _ _ _ => w_2L o
end
end CS
set_option Elab.async false
set_option linter.all false
set_option maxRecDepth 100000
set_option maxHeartbeats 4000000
set_option autoImplicit false
namespace CS
open PySem PySem.Spec PyProof.Rows L2
/-! ### tests -/
def bD : D → Option Bool
  | .bool b => some b
  | _ => none
def eT (f : ES D) : ES Bool := eb f fun x => eo (bD x)
def eAnd (f g : ES Bool) : ES Bool := eb f fun c => match c with
  | true => g
  | false => ep false
def eOr (f g : ES Bool) : ES Bool := eb f fun c => match c with
  | true => ep true
  | false => g
def eNot (f : ES Bool) : ES Bool := eb f fun c => ep (!c)
def eIf (c : ES Bool) (a b : ES D) : ES D := eb c fun t => match t with
  | true => a
  | false => b
def eAndV (a b : ES D) : ES D := eb a fun x => eb (eo (bD x)) fun c => match c with
  | true => b
  | false => ep (.bool false)
def eOrV (a b : ES D) : ES D := eb a fun x => eb (eo (bD x)) fun c => match c with
  | true => ep (.bool true)
  | false => b
def eNotV (a : ES D) : ES D := eb a fun x => eb (eo (bD x)) fun c => ep (.bool (!c))
theorem bD_some {x : D} {b : Bool} (h : bD x = some b) : x = .bool b := by
  cases x <;> cases h
  rfl
section
variable {K : PySem.W.Frag} {X : Cx}
theorem w_T {f : ES D} {σ : L2.St} {H : Hp} {Q : Bool → Hp → Prop} (h : tT K (eT f) σ H Q) : L2.tB (tE K f) σ H Q := by
  obtain ⟨B, F, ρ, R, z, ρ', e, k⟩ := h
  obtain ⟨x, ρ1, e1, e2⟩ := eb_some e
  obtain ⟨b, e3, e4⟩ := eo_some e2
  cases e4
  obtain rfl := bD_some e3
  refine ⟨B, F, ρ, R, _, _, e1, fun F' H' v s R' d => ?_⟩
  cases d
  exact ⟨_, rfl, k F' H' s R'⟩
theorem dT {e : Expr} {f : ES D} (h : PE X e (tE X.K f)) (he : ∀ whole, isTrue e X.env whole = (do let v ← whole; standAt e.pos; holding [v] (truthy v)) := by intro _; rfl) : PT X e (tT X.K (eT f)) := PTw (pt_val h he) fun _ _ _ => w_T
theorem w_and {f g : ES Bool} {σ : L2.St} {H : Hp} {Q : Bool → Hp → Prop} (h : tT K (eAnd f g) σ H Q) : tAnd (tT K f) (tT K g) σ H Q := by
  obtain ⟨B, F, ρ, R, z, ρ', e, k⟩ := h
  obtain ⟨c, ρ1, e1, e2⟩ := eb_some e
  refine ⟨B, F, ρ, R, c, ρ1, e1, fun F1 H1 s1 R1 => ?_⟩
  cases c with
  | true => exact iteT ⟨B, F1, ρ1, R1, z, ρ', e2, fun F2 H2 s2 R2 => k F2 H2 (s1.trans s2) R2⟩
  | false =>
    cases e2
    exact iteF (k F1 H1 s1 R1)
theorem w_or {f g : ES Bool} {σ : L2.St} {H : Hp} {Q : Bool → Hp → Prop} (h : tT K (eOr f g) σ H Q) : tOr (tT K f) (tT K g) σ H Q := by
  obtain ⟨B, F, ρ, R, z, ρ', e, k⟩ := h
  obtain ⟨c, ρ1, e1, e2⟩ := eb_some e
  refine ⟨B, F, ρ, R, c, ρ1, e1, fun F1 H1 s1 R1 => ?_⟩
  cases c with
  | false => exact iteF ⟨B, F1, ρ1, R1, z, ρ', e2, fun F2 H2 s2 R2 => k F2 H2 (s1.trans s2) R2⟩
  | true =>
    cases e2
    exact iteT (k F1 H1 s1 R1)
theorem w_not {f : ES Bool} {σ : L2.St} {H : Hp} {Q : Bool → Hp → Prop} (h : tT K (eNot f) σ H Q) : tNot (tT K f) σ H Q := by
  obtain ⟨B, F, ρ, R, z, ρ', e, k⟩ := h
  obtain ⟨c, ρ1, e1, e2⟩ := eb_some e
  cases e2
  exact ⟨B, F, ρ, R, c, _, e1, fun F1 H1 s1 R1 => k F1 H1 s1 R1⟩
theorem dand1 {a : Expr} {pos : Pos} {f : ES Bool} (ha : PT X a (tT X.K f)) : PW X (.BoolOp .And [a] pos) (tT X.K f) := pw_and1 ha
theorem dor1 {a : Expr} {pos : Pos} {f : ES Bool} (ha : PT X a (tT X.K f)) : PW X (.BoolOp .Or [a] pos) (tT X.K f) := pw_or1 ha
theorem dand {a b : Expr} {rest : List Expr} {pos : Pos} {f g : ES Bool} (ha : PT X a (tT X.K f)) (hb : PW X (.BoolOp .And (b :: rest) pos) (tT X.K g)) : PW X (.BoolOp .And (a :: b :: rest) pos) (tT X.K (eAnd f g)) := PWw (pw_and ha hb) fun _ _ _ => w_and
theorem dor {a b : Expr} {rest : List Expr} {pos : Pos} {f g : ES Bool} (ha : PT X a (tT X.K f)) (hb : PW X (.BoolOp .Or (b :: rest) pos) (tT X.K g)) : PW X (.BoolOp .Or (a :: b :: rest) pos) (tT X.K (eOr f g)) := PWw (pw_or ha hb) fun _ _ _ => w_or
theorem dnot {a : Expr} {pos : Pos} {f : ES Bool} (ha : PT X a (tT X.K f)) : PT X (.UnaryOp .Not a pos) (tT X.K (eNot f)) := PTw (pt_not ha) fun _ _ _ => w_not
theorem w_if {c : ES Bool} {a b : ES D} {σ : L2.St} {H : Hp} {Q : VK} (h : tE K (eIf c a b) σ H Q) : tIf (tT K c) (tE K a) (tE K b) σ H Q := by
  obtain ⟨B, F, ρ, R, z, ρ', e, k⟩ := h
  obtain ⟨t, ρ1, e1, e2⟩ := eb_some e
  refine ⟨B, F, ρ, R, t, ρ1, e1, fun F1 H1 s1 R1 => ?_⟩
  cases t with
  | true => exact iteT ⟨B, F1, ρ1, R1, z, ρ', e2, fun F2 H2 v s2 R2 => k F2 H2 v (s1.trans s2) R2⟩
  | false => exact iteF ⟨B, F1, ρ1, R1, z, ρ', e2, fun F2 H2 v s2 R2 => k F2 H2 v (s1.trans s2) R2⟩
theorem difx {c a b : Expr} {pos : Pos} {fc : ES Bool} {fa fb : ES D} (hc : PT X c (tT X.K fc)) (ha : PE X a (tE X.K fa)) (hb : PE X b (tE X.K fb)) : PE X (.IfExp c a b pos) (tE X.K (eIf fc fa fb)) := PEw (pe_ifExp hc ha hb) fun _ _ _ => w_if
theorem w_andV {a b : ES D} {σ : L2.St} {H : Hp} {Q : VK} (h : tE K (eAndV a b) σ H Q) : tAndV (tE K a) (tE K b) σ H Q := by
  obtain ⟨B, F, ρ, R, z, ρ', e, k⟩ := h
  obtain ⟨x, ρ1, e1, e2⟩ := eb_some e
  obtain ⟨c, ρ2, e3, e4⟩ := eb_some e2
  obtain ⟨c', e5, e6⟩ := eo_some e3
  cases e6
  obtain rfl := bD_some e5
  refine ⟨B, F, ρ, R, _, _, e1, fun F1 H1 v s1 R1 d => ?_⟩
  cases d
  refine ⟨_, rfl, ?_⟩
  cases c with
  | true => exact iteT ⟨B, F1, ρ1, R1, z, ρ', e4, fun F2 H2 v s2 R2 => k F2 H2 v (s1.trans s2) R2⟩
  | false =>
    cases e4
    exact iteF (k F1 H1 _ s1 R1 (.bl false))
theorem w_orV {a b : ES D} {σ : L2.St} {H : Hp} {Q : VK} (h : tE K (eOrV a b) σ H Q) : tOrV (tE K a) (tE K b) σ H Q := by
  obtain ⟨B, F, ρ, R, z, ρ', e, k⟩ := h
  obtain ⟨x, ρ1, e1, e2⟩ := eb_some e
  obtain ⟨c, ρ2, e3, e4⟩ := eb_some e2
  obtain ⟨c', e5, e6⟩ := eo_some e3
  cases e6
  obtain rfl := bD_some e5
  refine ⟨B, F, ρ, R, _, _, e1, fun F1 H1 v s1 R1 d => ?_⟩
  cases d
  refine ⟨_, rfl, ?_⟩
  cases c with
  | false => exact iteF ⟨B, F1, ρ1, R1, z, ρ', e4, fun F2 H2 v s2 R2 => k F2 H2 v (s1.trans s2) R2⟩
  | true =>
    cases e4
    exact iteT (k F1 H1 _ s1 R1 (.bl true))
theorem w_notV {a : ES D} {σ : L2.St} {H : Hp} {Q : VK} (h : tE K (eNotV a) σ H Q) : tNotV (tE K a) σ H Q := by
  obtain ⟨B, F, ρ, R, z, ρ', e, k⟩ := h
  obtain ⟨x, ρ1, e1, e2⟩ := eb_some e
  obtain ⟨c, ρ2, e3, e4⟩ := eb_some e2
  obtain ⟨c', e5, e6⟩ := eo_some e3
  cases e6
  obtain rfl := bD_some e5
  cases e4
  refine ⟨B, F, ρ, R, _, _, e1, fun F1 H1 v s1 R1 d => ?_⟩
  cases d
  exact ⟨_, rfl, k F1 H1 _ s1 R1 (.bl _)⟩
theorem dandV1 {op : BoolOp} {a : Expr} {pos : Pos} {f : ES D} (ha : PE X a (tE X.K f)) : PE X (.BoolOp op [a] pos) (tE X.K f) := pe_one ha
theorem dandV {a b : Expr} {rest : List Expr} {pos : Pos} {f g : ES D} (ha : PE X a (tE X.K f)) (hb : PE X (.BoolOp .And (b :: rest) pos) (tE X.K g)) : PE X (.BoolOp .And (a :: b :: rest) pos) (tE X.K (eAndV f g)) := PEw (pe_and ha hb) fun _ _ _ => w_andV
theorem dorV {a b : Expr} {rest : List Expr} {pos : Pos} {f g : ES D} (ha : PE X a (tE X.K f)) (hb : PE X (.BoolOp .Or (b :: rest) pos) (tE X.K g)) : PE X (.BoolOp .Or (a :: b :: rest) pos) (tE X.K (eOrV f g)) := PEw (pe_or ha hb) fun _ _ _ => w_orV
theorem dnotV {a : Expr} {pos : Pos} {f : ES D} (ha : PE X a (tE X.K f)) : PE X (.UnaryOp .Not a pos) (tE X.K (eNotV f)) := PEw (pe_not ha) fun _ _ _ => w_notV
end
/-! ### statements -/
inductive Fl where
  | nx | bk | ct
  | rt (w : W)
abbrev SS := En → Option (Fl × En)
section
variable (K : PySem.W.Frag) (ps : List Nat)
def RetR (B : Bs) (F H : Hp) (v : V) : W → Prop
  | .d x => Dp K F v x
  | .m xs => ∃ a vs, v = .ref a ∧ H a = some (.lst vs) ∧ F a = none ∧ DpAll K F vs xs ∧ B.H0 a = none
def EndOk (B : Bs) (F : Hp) (ρ : En) (D : Ends) : Fl → Prop
  | .nx => ∀ F' H' σ, Same F F' → Rel K B σ ρ F' H' → D.nx σ H'
  | .bk => ∀ F' H' σ, Same F F' → Rel K B σ ρ F' H' → D.bk σ H'
  | .ct => ∀ F' H' σ, Same F F' → Rel K B σ ρ F' H' → D.ct σ H'
  | .rt w => ∀ F' H' σ v, Same F F' → Rel K B σ ρ F' H' → RetR K B F' H' v w → D.rt v H'
def tS (f : SS) : TS := fun D σ H => ∃ B F ρ, Rel K B σ ρ F H ∧ (∀ p ∈ B.pins, p.1 ∈ ps) ∧ ∃ fl ρ', f ρ = some (fl, ρ') ∧ EndOk K B F ρ' D fl
end
def sNx : SS := fun ρ => some (.nx, ρ)
def sSq (f g : SS) : SS := fun ρ => match f ρ with
  | some (.nx, ρ1) => g ρ1
  | r => r
def sIf (c : ES Bool) (f g : SS) : SS := fun ρ => match c ρ with
  | some (true, ρ1) => f ρ1
  | some (false, ρ1) => g ρ1
  | none => none
def isM (ρ : En) (i : Nat) : Bool := match ρ[i]? with
  | some (some (.m _)) => true
  | _ => false
theorem isM_false {ρ : En} {i : Nat} (h : isM ρ i = false) : ∀ xs, ρ[i]? ≠ some (some (.m xs)) := fun xs e => by
  unfold isM at h
  rw [e] at h
  cases h
def bd (i : Nat) (x : D) (ρ : En) : Option En := match isM ρ i with
  | true => none
  | false => some (ρ.set i (some (.d x)))
theorem bd_some {i : Nat} {x : D} {ρ ρ' : En} (h : bd i x ρ = some ρ') : (∀ xs, ρ[i]? ≠ some (some (.m xs))) ∧ ρ' = ρ.set i (some (.d x)) := by
  unfold bd at h
  split at h
  · cases h
  · rename_i e; cases h; exact ⟨isM_false e, rfl⟩
def sA (i : Nat) (f : ES D) : SS := fun ρ => match f ρ with
  | some (x, ρ1) => (bd i x ρ1).map fun ρ2 => (.nx, ρ2)
  | none => none
def sAN (i : Nat) (f : ES (List D)) : SS := fun ρ => match f ρ with
  | some (x, ρ1) => some (.nx, ρ1.set i (some (.m x)))
  | none => none
def sE (f : ES D) : SS := fun ρ => match f ρ with
  | some (_, ρ1) => some (.nx, ρ1)
  | none => none
def sR (f : ES D) : SS := fun ρ => match f ρ with
  | some (x, ρ1) => some (.rt (.d x), ρ1)
  | none => none
def sRN (f : ES (List D)) : SS := fun ρ => match f ρ with
  | some (x, ρ1) => some (.rt (.m x), ρ1)
  | none => none
/-- the lists of these slots become data -/
def frzE : List Nat → En → En
  | [], ρ => ρ
  | i :: is, ρ => frzE is (match ρ[i]? with
    | some (some (.m xs)) => ρ.set i (some (.d (.list xs)))
    | _ => ρ)
def sFz (is : List Nat) (f : SS) : SS := fun ρ => f (frzE is ρ)
section
variable {K : PySem.W.Frag} {X : Cx} {ps : List Nat}
theorem EndOk.mono {B : Bs} {F F' : Hp} {ρ : En} {D : Ends} {fl : Fl} (s : Same F F') (h : EndOk K B F ρ D fl) : EndOk K B F' ρ D fl := by
  cases fl with
  | nx => exact fun F2 H2 σ t R => h F2 H2 σ (s.trans t) R
  | bk => exact fun F2 H2 σ t R => h F2 H2 σ (s.trans t) R
  | ct => exact fun F2 H2 σ t R => h F2 H2 σ (s.trans t) R
  | rt w => exact fun F2 H2 σ v t R => h F2 H2 σ v (s.trans t) R
theorem w_nx {D : Ends} {σ : L2.St} {H : Hp} (h : tS K ps sNx D σ H) : tNext D σ H := by
  obtain ⟨B, F, ρ, R, hp, fl, ρ', e, k⟩ := h
  cases e
  exact k F H σ (Same.refl _) R
theorem w_seq {f g : SS} {D : Ends} {σ : L2.St} {H : Hp} (h : tS K ps (sSq f g) D σ H) : tSeq (tS K ps f) (tS K ps g) D σ H := by
  obtain ⟨B, F, ρ, R, hp, fl, ρ', e, k⟩ := h
  unfold sSq at e
  cases e1 : f ρ with
  | none => rw [e1] at e; cases e
  | some p =>
    obtain ⟨f1, ρ1⟩ := p
    rw [e1] at e
    cases f1 with
    | nx => exact ⟨B, F, ρ, R, hp, .nx, ρ1, e1, fun F1 H1 σ1 s1 R1 => ⟨B, F1, ρ1, R1, hp, fl, ρ', e, k.mono s1⟩⟩
    | bk => cases e; exact ⟨B, F, ρ, R, hp, .bk, _, e1, k⟩
    | ct => cases e; exact ⟨B, F, ρ, R, hp, .ct, _, e1, k⟩
    | rt w => cases e; exact ⟨B, F, ρ, R, hp, .rt w, _, e1, k⟩
theorem snil : PSs X [] (tS X.K ps sNx) := PSsw pss_nil fun _ _ _ => w_nx
theorem scons {st : Stmt} {rest : List Stmt} {f g : SS} (h1 : PS X st (tS X.K ps f)) (h2 : PSs X rest (tS X.K ps g)) : PSs X (st :: rest) (tS X.K ps (sSq f g)) := PSsw (pss_cons h1 h2) fun _ _ _ => w_seq
theorem sone {st : Stmt} {f : SS} (h1 : PS X st (tS X.K ps f)) : PSs X [st] (tS X.K ps f) := pss_one h1
theorem w_ifS {c : ES Bool} {f g : SS} {D : Ends} {σ : L2.St} {H : Hp} (h : tS K ps (sIf c f g) D σ H) : tIfS (tT K c) (tS K ps f) (tS K ps g) D σ H := by
  obtain ⟨B, F, ρ, R, hp, fl, ρ', e, k⟩ := h
  unfold sIf at e
  split at e
  · rename_i ρ1 e1
    exact ⟨B, F, ρ, R, true, ρ1, e1, fun F1 H1 s1 R1 => iteT ⟨B, F1, ρ1, R1, hp, fl, ρ', e, k.mono s1⟩⟩
  · rename_i ρ1 e1
    exact ⟨B, F, ρ, R, false, ρ1, e1, fun F1 H1 s1 R1 => iteF ⟨B, F1, ρ1, R1, hp, fl, ρ', e, k.mono s1⟩⟩
  · cases e
theorem sif {c : Expr} {a b : List Stmt} {pos : Pos} {fc : ES Bool} {f g : SS} (hc : PT X c (tT X.K fc)) (ha : PSs X a (tS X.K ps f)) (hb : PSs X b (tS X.K ps g)) : PS X (.If c a b pos) (tS X.K ps (sIf fc f g)) := PSw (ps_if hc ha hb) fun _ _ _ => w_ifS
/-- what can't be reached -/
def sNo : SS := fun _ => none
theorem sno {st : Stmt} : PS X st (tS X.K ps sNo) := PSw ps_never fun _ _ _ h => by
  obtain ⟨B, F, ρ, R, hp, fl, ρ', e, k⟩ := h
  cases e
theorem w_set {i : Nat} {f : ES D} {te : TE} (hw : ∀ σ H Q, tE K f σ H Q → te σ H Q) {D : Ends} {σ : L2.St} {H : Hp} (h : tS K ps (sA i f) D σ H) : tAsg te (gName i) D σ H := by
  obtain ⟨B, F, ρ, R, hp, fl, ρ', e, k⟩ := h
  unfold sA at e
  split at e
  · rename_i x ρ1 e1
    cases e2 : bd i x ρ1 with
    | none => rw [e2] at e; cases e
    | some ρ2 =>
      rw [e2] at e; cases e
      obtain ⟨hm, rfl⟩ := bd_some e2
      exact hw _ _ _ ⟨B, F, ρ, R, x, ρ1, e1, fun F1 H1 v s1 R1 d => k F1 H1 _ s1 (R1.setD d hm)⟩
  · cases e
theorem sset {st : Stmt} {i : Nat} {f : ES D} {te : TE} (h : PS X st (tAsg te (gName i))) (hw : ∀ σ H Q, tE X.K f σ H Q → te σ H Q) : PS X st (tS X.K ps (sA i f)) := PSw h fun _ _ _ => w_set hw
theorem sset1 {st : Stmt} {i : Nat} {f : ES D} (h : PS X st (tAsg (tE X.K f) (gName i))) : PS X st (tS X.K ps (sA i f)) := sset h fun _ _ _ z => z
theorem w_setN {i : Nat} (hi : i ∉ ps) {f : ES (List D)} {te : TE} (hw : ∀ σ H Q, tN K f σ H Q → te σ H Q) {D : Ends} {σ : L2.St} {H : Hp} (h : tS K ps (sAN i f) D σ H) : tAsg te (gName i) D σ H := by
  obtain ⟨B, F, ρ, R, hp, fl, ρ', e, k⟩ := h
  unfold sAN at e
  split at e
  · rename_i x ρ1 e1
    cases e
    exact hw _ _ _ ⟨B, F, ρ, R, x, ρ1, e1, fun F1 H1 a vs s1 R1 h1 h2 h3 h4 h5 => k F1 H1 _ s1 (R1.setM h3 h1 h2 h4 (fun p hq z => hi (z ▸ hp p hq)) h5)⟩
  · cases e
theorem ssetN {st : Stmt} {i : Nat} {f : ES (List D)} {te : TE} (hi : i ∉ ps) (h : PS X st (tAsg te (gName i))) (hw : ∀ σ H Q, tN X.K f σ H Q → te σ H Q) : PS X st (tS X.K ps (sAN i f)) := PSw h fun _ _ _ => w_setN hi hw
theorem ssetN1 {st : Stmt} {i : Nat} {f : ES (List D)} (hi : i ∉ ps) (h : PS X st (tAsg (tN X.K f) (gName i))) : PS X st (tS X.K ps (sAN i f)) := ssetN hi h fun _ _ _ z => z
theorem sexpr {e : Expr} {pos : Pos} {f : ES D} (he : PE X e (tE X.K f)) (hs : swapsWith e none pos.line X.env = pure false := by rfl) : PS X (.Expr e pos) (tS X.K ps (sE f)) := PSw (ps_expr he hs) fun D σ H h => by
  obtain ⟨B, F, ρ, R, hp, fl, ρ', e, k⟩ := h
  unfold sE at e
  split at e
  · rename_i x ρ1 e1
    cases e
    exact ⟨B, F, ρ, R, x, _, e1, fun F1 H1 v s1 R1 d => k F1 H1 σ s1 R1⟩
  · cases e
theorem sret {e : Expr} {pos : Pos} {f : ES D} (he : PE X e (tE X.K f)) : PS X (.Return (some e) pos) (tS X.K ps (sR f)) := PSw (ps_ret he) fun D σ H h => by
  obtain ⟨B, F, ρ, R, hp, fl, ρ', e, k⟩ := h
  unfold sR at e
  split at e
  · rename_i x ρ1 e1
    cases e
    exact ⟨B, F, ρ, R, x, _, e1, fun F1 H1 v s1 R1 d => k F1 H1 σ v s1 R1 d⟩
  · cases e
theorem sretN {e : Expr} {pos : Pos} {f : ES (List D)} (he : PE X e (tN X.K f)) : PS X (.Return (some e) pos) (tS X.K ps (sRN f)) := PSw (ps_ret he) fun D σ H h => by
  obtain ⟨B, F, ρ, R, hp, fl, ρ', e, k⟩ := h
  unfold sRN at e
  split at e
  · rename_i x ρ1 e1
    cases e
    exact ⟨B, F, ρ, R, x, _, e1, fun F1 H1 a vs s1 R1 h1 h2 h3 h4 h5 => k F1 H1 σ _ s1 R1 ⟨a, vs, rfl, h1, h2, h3, h4⟩⟩
  · cases e
theorem sretno {pos : Pos} : PS X (.Return none pos) (tS X.K ps (sR (ep .none))) := PSw ps_retN fun D σ H h => by
  obtain ⟨B, F, ρ, R, hp, fl, ρ', e, k⟩ := h
  cases e
  exact k F H σ _ (Same.refl _) R .non
def sBk : SS := fun ρ => some (.bk, ρ)
def sCt : SS := fun ρ => some (.ct, ρ)
theorem sbk {pos : Pos} : PS X (.Break pos) (tS X.K ps sBk) := PSw ps_break fun D σ H h => by
  obtain ⟨B, F, ρ, R, hp, fl, ρ', e, k⟩ := h
  cases e
  exact k F H σ (Same.refl _) R
theorem sct {pos : Pos} : PS X (.Continue pos) (tS X.K ps sCt) := PSw ps_continue fun D σ H h => by
  obtain ⟨B, F, ρ, R, hp, fl, ρ', e, k⟩ := h
  cases e
  exact k F H σ (Same.refl _) R
theorem spass {pos : Pos} : PS X (.Pass pos) (tS X.K ps sNx) := PSw ps_pass fun D σ H h => by
  obtain ⟨B, F, ρ, R, hp, fl, ρ', e, k⟩ := h
  cases e
  exact k F H σ (Same.refl _) R
theorem frz_rel {B : Bs} {σ : L2.St} {H : Hp} : ∀ (is : List Nat) {ρ : En} {F : Hp}, Rel K B σ ρ F H → (∀ p ∈ B.pins, p.1 ∉ is) → ∃ F', Same F F' ∧ Rel K B σ (frzE is ρ) F' H
  | [], ρ, F, R, _ => ⟨F, Same.refl _, R⟩
  | i :: is, ρ, F, R, hp => by
    unfold frzE
    split
    · rename_i xs e
      obtain ⟨F1, v, s1, _, _, R1⟩ := R.frz e fun p hq z => hp p hq (by rw [z]; exact List.mem_cons_self)
      obtain ⟨F2, s2, R2⟩ := frz_rel is R1 fun p hq z => hp p hq (List.mem_cons_of_mem _ z)
      exact ⟨F2, s1.trans s2, R2⟩
    · exact frz_rel is R fun p hq z => hp p hq (List.mem_cons_of_mem _ z)
theorem sfz {st : Stmt} {f : SS} (is : List Nat) (h : PS X st (tS X.K ps f)) (hi : ∀ i ∈ is, i ∉ ps := by decide) : PS X st (tS X.K ps (sFz is f)) := PSw h fun D σ H h => by
  obtain ⟨B, F, ρ, R, hp, fl, ρ', e, k⟩ := h
  obtain ⟨F1, s1, R1⟩ := frz_rel is R fun p hq z => hi _ z (hp p hq)
  exact ⟨B, F1, _, R1, hp, fl, ρ', e, k.mono s1⟩
/-! ### while -/
def whileN : Nat → ES Bool → SS → SS
  | 0, _, _ => fun _ => none
  | n + 1, c, b => fun ρ => match c ρ with
    | none => none
    | some (false, ρ1) => some (.nx, ρ1)
    | some (true, ρ1) => match b ρ1 with
      | none => none
      | some (.nx, ρ2) => whileN n c b ρ2
      | some (.ct, ρ2) => whileN n c b ρ2
      | some (.bk, ρ2) => some (.nx, ρ2)
      | some (.rt w, ρ2) => some (.rt w, ρ2)
theorem whileN_det {c : ES Bool} {b : SS} : ∀ {n m : Nat} {ρ : En} {r r' : Fl × En}, whileN n c b ρ = some r → whileN m c b ρ = some r' → r = r'
  | 0, _, _, _, _, h, _ => by cases h
  | _ + 1, 0, _, _, _, _, h => by cases h
  | n + 1, m + 1, ρ, r, r', h, h' => by
    unfold whileN at h h'
    cases e : c ρ with
    | none => rw [e] at h; cases h
    | some p =>
      obtain ⟨t, ρ1⟩ := p
      rw [e] at h h'
      cases t with
      | false => cases h; cases h'; rfl
      | true =>
        cases e2 : b ρ1 with
        | none => simp only [e2] at h; cases h
        | some q =>
          obtain ⟨fl, ρ2⟩ := q
          simp only [e2] at h h'
          cases fl with
          | nx => exact whileN_det h h'
          | ct => exact whileN_det h h'
          | bk => cases h; cases h'; rfl
          | rt w => cases h; cases h'; rfl
open Classical in
noncomputable def sWh (c : ES Bool) (b : SS) : SS := fun ρ => if h : ∃ r n, whileN n c b ρ = some r then some (Classical.choose h) else none
theorem sWh_some {c : ES Bool} {b : SS} {ρ : En} {r : Fl × En} (h : sWh c b ρ = some r) : ∃ n, whileN n c b ρ = some r := by
  unfold sWh at h
  split at h
  · rename_i q
    cases h
    exact Classical.choose_spec q
  · cases h
theorem sWh_of {c : ES Bool} {b : SS} {ρ : En} {r : Fl × En} (n : Nat) (h : whileN n c b ρ = some r) : sWh c b ρ = some r := by
  unfold sWh
  have q : ∃ r n, whileN n c b ρ = some r := ⟨r, n, h⟩
  rw [dif_pos q]
  obtain ⟨m, hm⟩ := Classical.choose_spec q
  rw [whileN_det hm h]
theorem w_while {c : ES Bool} {b : SS} {D : Ends} {σ : L2.St} {H : Hp} (h : tS K ps (sWh c b) D σ H) : tWhile (tT K c) (tS K ps b) D σ H := by
  obtain ⟨B, F, ρ, R, hp, fl, ρ', e, k⟩ := h
  obtain ⟨n, e⟩ := sWh_some e
  refine ⟨fun m σ H => ∃ F1 ρ1, Same F F1 ∧ Rel K B σ ρ1 F1 H ∧ whileN m c b ρ1 = some (fl, ρ'), ⟨n, F, ρ, Same.refl _, R, e⟩, ?_⟩
  rintro m σ1 H1 ⟨F1, ρ1, s1, R1, e1⟩
  cases m with
  | zero => cases e1
  | succ m =>
    unfold whileN at e1
    cases ec : c ρ1 with
    | none => rw [ec] at e1; cases e1
    | some p =>
      obtain ⟨t, ρ2⟩ := p
      rw [ec] at e1
      refine ⟨B, F1, ρ1, R1, t, ρ2, ec, fun F2 H2 s2 R2 => ?_⟩
      cases t with
      | false =>
        cases e1
        exact iteF (k F2 H2 σ1 (s1.trans s2) R2)
      | true =>
        refine iteT ⟨fun σ' H' => ∃ F3 ρ3, Same F F3 ∧ Rel K B σ' ρ3 F3 H' ∧ whileN m c b ρ3 = some (fl, ρ'), fun σ' H' z => ⟨m, Nat.lt_succ_self _, z⟩, ?_⟩
        cases eb : b ρ2 with
        | none => simp only [eb] at e1; cases e1
        | some q =>
          obtain ⟨f2, ρ3⟩ := q
          simp only [eb] at e1
          have st := s1.trans s2
          refine ⟨B, F2, ρ2, R2, hp, f2, ρ3, eb, ?_⟩
          cases f2 with
          | nx => exact fun F3 H3 σ3 s3 R3 => ⟨F3, ρ3, st.trans s3, R3, e1⟩
          | ct => exact fun F3 H3 σ3 s3 R3 => ⟨F3, ρ3, st.trans s3, R3, e1⟩
          | bk => cases e1; exact fun F3 H3 σ3 s3 R3 => k F3 H3 σ3 (st.trans s3) R3
          | rt w => cases e1; exact fun F3 H3 σ3 v s3 R3 => k F3 H3 σ3 v (st.trans s3) R3
theorem swh {c : Expr} {body : List Stmt} {pos : Pos} {fc : ES Bool} {f : SS} (hx : ∀ v s, ¬ X.xe v s) (hc : PT X c (tT X.K fc)) (hb : PSs X body (tS X.K ps f)) (hp : PassesOwn (model X.prog X.w) X.A X.env X.xe := by exact PassesOwn.never) : PS X (.While c body [] pos) (tS X.K ps (sWh fc f)) := PSw (ps_while hp hc hb) fun _ _ _ => w_while
end
end CS
set_option Elab.async false
set_option linter.all false
set_option maxRecDepth 100000
set_option maxHeartbeats 4000000
set_option autoImplicit false
namespace CS
open PySem PySem.Spec PyProof.Rows L2
/-! ### targets -/
abbrev Bd := D → En → Option En
/-- alike but for some slots -/
def Ag (vs : List Nat) (σ σ' : L2.St) : Prop := σ'.length = σ.length ∧ ∀ j, j ∉ vs → σ'[j]? = σ[j]?
theorem Ag.refl (vs : List Nat) (σ : L2.St) : Ag vs σ σ := ⟨rfl, fun _ _ => rfl⟩
theorem Ag.trans {vs : List Nat} {σ σ1 σ2 : L2.St} (a : Ag vs σ σ1) (b : Ag vs σ1 σ2) : Ag vs σ σ2 := ⟨b.1.trans a.1, fun j h => (b.2 j h).trans (a.2 j h)⟩
theorem Ag.wipe {vs : List Nat} {σ σ' : L2.St} (a : Ag vs σ σ') : L2.wipe σ' vs = L2.wipe σ vs := by
  have key : ∀ (vs : List Nat) (σ : L2.St) (j : Nat), (L2.wipe σ vs)[j]? = if j ∈ vs ∧ j < σ.length then some none else σ[j]? := by
    intro vs
    induction vs with
    | nil => intro σ j; simp [L2.wipe]
    | cons v r ih =>
      intro σ j
      show ((L2.wipe σ r).set v none)[j]? = _
      rw [List.getElem?_set, ih]
      by_cases h1 : v = j
      · subst h1
        rw [if_pos rfl]
        by_cases h2 : v < σ.length
        · rw [if_pos (by rw [wipe_length]; exact h2), if_pos ⟨List.mem_cons_self, h2⟩]
        · rw [if_neg (by rw [wipe_length]; exact h2), if_neg (fun z => h2 z.2), List.getElem?_eq_none (by omega)]
      · rw [if_neg h1]
        by_cases h2 : j ∈ r ∧ j < σ.length
        · rw [if_pos h2, if_pos ⟨List.mem_cons_of_mem _ h2.1, h2.2⟩]
        · rw [if_neg h2, if_neg (fun z => h2 ⟨by rcases List.mem_cons.mp z.1 with q | q; exact absurd q.symm h1; exact q, z.2⟩)]
  refine List.ext_getElem? fun j => ?_
  rw [key, key, a.1]
  by_cases h : j ∈ vs
  · by_cases h2 : j < σ.length
    · rw [if_pos ⟨h, h2⟩, if_pos ⟨h, h2⟩]
    · rw [if_neg (fun z => h2 z.2), if_neg (fun z => h2 z.2), List.getElem?_eq_none (by rw [a.1]; omega), List.getElem?_eq_none (by omega)]
  · rw [if_neg (fun z => h z.1), if_neg (fun z => h z.1), a.2 j h]
def GOk (K : PySem.W.Frag) (vs : List Nat) (g : TG) (b : Bd) : Prop := ∀ (B : Bs) (F H : Hp) (σ : L2.St) (ρ : En) (v : V) (x : D) (ρ' : En) (Q : L2.St → Hp → Prop), Rel K B σ ρ F H → Dp K F v x → b x ρ = some ρ' →
  (∀ F' H' σ', Same F F' → Rel K B σ' ρ' F' H' → Ag vs σ σ' → Q σ' H') → g v σ H Q
abbrev Bds := List D → En → Option En
def GsOk (K : PySem.W.Frag) (vs : List Nat) (g : TGs) (b : Bds) : Prop := ∀ (B : Bs) (F H : Hp) (σ : L2.St) (ρ : En) (us : List V) (xs : List D) (ρ' : En) (Q : L2.St → Hp → Prop), Rel K B σ ρ F H → DpAll K F us xs → b xs ρ = some ρ' →
  (∀ F' H' σ', Same F F' → Rel K B σ' ρ' F' H' → Ag vs σ σ' → Q σ' H') → g us σ H Q
def bdNil : Bds := fun xs ρ => match xs with
  | [] => some ρ
  | _ => none
def bdCons (b : Bd) (bs : Bds) : Bds := fun xs ρ => match xs with
  | x :: r => match b x ρ with
    | some ρ1 => bs r ρ1
    | none => none
  | [] => none
def bdT (n : Nat) (bs : Bds) : Bd := fun x ρ => match x with
  | .tuple xs => match Nat.beq xs.length n with
    | true => bs xs ρ
    | false => none
  | _ => none
section
variable {K : PySem.W.Frag} {X : Cx} {ps : List Nat}
theorem gname {vs : List Nat} {i : Nat} (h : i ∈ vs) : GOk K vs (gName i) (bd i) := fun B F H σ ρ v x ρ' Q R d e k => by
  obtain ⟨hm, rfl⟩ := bd_some e
  refine k F H _ (Same.refl _) (R.setD d hm) ⟨by simp, fun j hj => ?_⟩
  have hne : i ≠ j := fun z => by subst z; exact hj h
  rw [List.getElem?_set_ne hne]
theorem gnil {vs : List Nat} : GsOk K vs gNil bdNil := fun B F H σ ρ us xs ρ' Q R d e k => by
  cases d with
  | nil => cases e; exact ⟨rfl, k F H σ (Same.refl _) R (Ag.refl _ _)⟩
  | cons _ _ => cases e
theorem gcons {vs : List Nat} {t : TG} {u : TGs} {b : Bd} {bs : Bds} (h1 : GOk K vs t b) (h2 : GsOk K vs u bs) : GsOk K vs (gCons t u) (bdCons b bs) := fun B F H σ ρ us xs ρ' Q R d e k => by
  cases d with
  | nil => cases e
  | cons dx dr =>
    rename_i v vr x r
    unfold bdCons at e
    simp only at e
    split at e
    · rename_i ρ1 e1
      exact ⟨v, vr, rfl, h1 B F H σ ρ v x ρ1 _ R dx e1 fun F1 H1 σ1 s1 R1 a1 => h2 B F1 H1 σ1 ρ1 vr r ρ' Q R1 (DpmA s1 dr) e fun F2 H2 σ2 s2 R2 a2 => k F2 H2 σ2 (s1.trans s2) R2 (a1.trans a2)⟩
    · cases e
theorem gtup {vs : List Nat} {n : Nat} {t : TGs} {bs : Bds} (h : GsOk K vs t bs) : GOk K vs (gTup K n t) (bdT n bs) := fun B F H σ ρ v x ρ' Q R d e k => by
  unfold bdT at e
  cases d with
  | tup hs ht =>
    simp only at e
    split at e
    · rename_i e1
      exact ⟨_, _, rfl, CS.Same.seqT R.sub hs, (DpAll.len ht).trans (Nat.eq_of_beq_eq_true e1), h B F H σ ρ _ _ ρ' Q R ht e k⟩
    · cases e
  | _ => cases e
/-! ### what is walked -/
def Wk (K : PySem.W.Frag) (J : It) (xs : List D) (F0 : Hp) : Prop := ∀ F H, Same F0 F → Same F H →
  (∀ (i : Nat) x, xs[i]? = some x → J.go i H ∧ ∀ v H', J.yld i H v H' → ∃ F', Gr F H F' H' ∧ Dp K F' v x) ∧ J.stop xs.length H
def tI (K : PySem.W.Frag) (f : ES (List D)) : TI := fun σ H R => ∃ B F ρ, Rel K B σ ρ F H ∧ ∃ xs ρ', f ρ = some (xs, ρ') ∧ ∀ F' H' J, Same F F' → Rel K B σ ρ' F' H' → Wk K J xs F' → R J H'
theorem PIw {tg it : Expr} {t t' : TI} (h : PI X tg it t) (w : ∀ σ H R, t' σ H R → t σ H R) : PI X tg it t' := ⟨fun pins s σ H R I q => h.run pins s σ H R I (w _ _ _ q)⟩
def lD : D → Option (List D)
  | .list xs => some xs
  | _ => none
def tD : D → Option (List D)
  | .tuple xs => some xs
  | _ => none
def eLs (f : ES D) : ES (List D) := eb f fun x => eo (lD x)
def eTs (f : ES D) : ES (List D) := eb f fun x => eo (tD x)
theorem lD_some {x : D} {xs : List D} (h : lD x = some xs) : x = .list xs := by
  cases x <;> cases h
  rfl
theorem tD_some {x : D} {xs : List D} (h : tD x = some xs) : x = .tuple xs := by
  cases x <;> cases h
  rfl
theorem eLs_some {f : ES D} {ρ ρ' : En} {xs : List D} (h : eLs f ρ = some (xs, ρ')) : f ρ = some (.list xs, ρ') := by
  obtain ⟨x, ρ1, e1, e2⟩ := eb_some h
  obtain ⟨y, e3, e4⟩ := eo_some e2
  cases e4
  obtain rfl := lD_some e3
  exact e1
theorem eTs_some {f : ES D} {ρ ρ' : En} {xs : List D} (h : eTs f ρ = some (xs, ρ')) : f ρ = some (.tuple xs, ρ') := by
  obtain ⟨x, ρ1, e1, e2⟩ := eb_some h
  obtain ⟨y, e3, e4⟩ := eo_some e2
  cases e4
  obtain rfl := tD_some e3
  exact e1
theorem wk_list {a : Addr} {vs : List V} {xs : List D} {F0 : Hp} (hs : F0 a = some (.lst vs)) (hd : DpAll K F0 vs xs) : Wk K (Itl K a) xs F0 := fun F H s t => by
  have hq : SqL K H a vs := SqL.of (t _ _ (s _ _ hs))
  refine ⟨fun i x e => ?_, ⟨vs, hq, by rw [DpAll.len hd]; exact Nat.le_refl _⟩⟩
  obtain ⟨v, e1, d1⟩ := DpAll.get hd e
  refine ⟨⟨vs, v, hq, e1⟩, fun v' H' y => ?_⟩
  obtain ⟨rfl, y⟩ := y
  have := y vs hq
  rw [e1] at this
  cases this
  exact ⟨F, .refl, Dpm s d1⟩
theorem wk_tup {a : Addr} {vs : List V} {xs : List D} {F0 : Hp} (hs : SqT K F0 a vs) (hd : DpAll K F0 vs xs) : Wk K (Itt K a) xs F0 := fun F H s t => by
  have hq : SqT K H a vs := CS.Same.seqT (s.trans t) hs
  refine ⟨fun i x e => ?_, ⟨vs, hq, by rw [DpAll.len hd]; exact Nat.le_refl _⟩⟩
  obtain ⟨v, e1, d1⟩ := DpAll.get hd e
  refine ⟨⟨vs, v, hq, e1⟩, fun v' H' y => ?_⟩
  obtain ⟨rfl, y⟩ := y
  have := y vs hq
  rw [e1] at this
  cases this
  exact ⟨F, .refl, Dpm s d1⟩
theorem ilist {tg l : Expr} {f : ES D} (h : PE X l (tE X.K f)) : PI X tg l (tI X.K (eLs f)) := PIw (pi_list h) fun σ H R q => by
  obtain ⟨B, F, ρ, Rl, xs, ρ', e, k⟩ := q
  refine ⟨B, F, ρ, Rl, _, ρ', eLs_some e, fun F' H' v s R' d => ?_⟩
  cases d with
  | lst hs ht => exact ⟨_, rfl, ⟨_, SqL.of (R'.sub _ _ hs)⟩, k F' H' _ s R' (wk_list hs ht)⟩
theorem ituple {tg l : Expr} {f : ES D} (h : PE X l (tE X.K f)) : PI X tg l (tI X.K (eTs f)) := PIw (pi_tup h) fun σ H R q => by
  obtain ⟨B, F, ρ, Rl, xs, ρ', e, k⟩ := q
  refine ⟨B, F, ρ, Rl, _, ρ', eTs_some e, fun F' H' v s R' d => ?_⟩
  cases d with
  | tup hs ht => exact ⟨_, rfl, ⟨_, CS.Same.seqT R'.sub hs⟩, k F' H' _ s R' (wk_tup hs ht)⟩
/-- the ints from lo on -/
def rgD (lo : Int) : Nat → List D
  | 0 => []
  | n + 1 => .int lo :: rgD (lo + 1) n
theorem rgD_get : ∀ (n : Nat) (lo : Int) (i : Nat) {x : D}, (rgD lo n)[i]? = some x → i < n ∧ x = .int (lo + i)
  | 0, _, _, _, h => by simp [rgD] at h
  | n + 1, lo, 0, x, h => by
    simp [rgD] at h
    exact ⟨Nat.succ_pos _, by rw [← h]; simp⟩
  | n + 1, lo, i + 1, x, h => by
    obtain ⟨h1, h2⟩ := rgD_get n (lo + 1) i (x := x) (by simpa [rgD] using h)
    exact ⟨Nat.succ_lt_succ h1, by rw [h2]; congr 1; push_cast; omega⟩
theorem rgD_len : ∀ (n : Nat) (lo : Int), (rgD lo n).length = n
  | 0, _ => rfl
  | n + 1, lo => congrArg (· + 1) (rgD_len n (lo + 1))
theorem wk_range {lo : Int} {n : Nat} {F0 : Hp} : Wk K (Itr lo n) (rgD lo n) F0 := fun F H s t => by
  refine ⟨fun i x e => ?_, by rw [rgD_len]; exact Nat.le_refl _⟩
  obtain ⟨h1, rfl⟩ := rgD_get _ _ _ e
  refine ⟨h1, fun v H' y => ?_⟩
  obtain ⟨rfl, rfl⟩ := y
  exact ⟨F, .refl, .int _⟩
def in62 (i : Int) : Bool := decide (-(2 ^ 62) ≤ i) && decide (i < 2 ^ 62)
def rng1 : List D → Option (List D)
  | [.int j] => match in62 j with
    | true => some (rgD 0 j.toNat)
    | false => none
  | _ => none
def rng2 : List D → Option (List D)
  | [.int i, .int j] => match in62 i && in62 j with
    | true => some (rgD i (j - i).toNat)
    | false => none
  | _ => none
theorem in62_ok {i : Int} (h : in62 i = true) : -(2 ^ 62) ≤ i ∧ i < 2 ^ 62 := by
  unfold in62 at h
  rw [Bool.and_eq_true] at h
  exact ⟨of_decide_eq_true h.1, of_decide_eq_true h.2⟩
def eAs {α : Type} (g : List D → Option α) (f : ES (List D)) : ES α := eb f fun xs => eo (g xs)
theorem irange1 {tg a : Expr} {p pos : Pos} {f : ES (List D)} (hg : Gl X "range") (hm : X.mg "range" = none) (h : PA X [a] (tAs X.K f)) (hs : starEach [a] X.env = [(false, eval a X.env)] := by rfl) : PI X tg (.Call (.Name "range" p) [a] [] pos) (tI X.K (eAs rng1 f)) := PIw (pi_range1 (hs := hs) hg hm h) fun σ H R q => by
  obtain ⟨B, F, ρ, Rl, xs, ρ', e, k⟩ := q
  obtain ⟨as, ρ1, e1, e2⟩ := eb_some e
  obtain ⟨ys, e3, e4⟩ := eo_some e2
  cases e4
  refine ⟨B, F, ρ, Rl, as, _, e1, fun F' H' v s R' d => ?_⟩
  unfold rng1 at e3
  split at e3
  · rename_i j
    split at e3
    · rename_i hj
      cases e3
      cases d with
      | cons dx dr =>
        cases dx
        cases dr
        exact ⟨j, rfl, (in62_ok hj).1, (in62_ok hj).2, k F' H' _ s R' wk_range⟩
    · cases e3
  · cases e3
theorem irange2 {tg a b : Expr} {p pos : Pos} {f : ES (List D)} (hg : Gl X "range") (hm : X.mg "range" = none) (h : PA X [a, b] (tAs X.K f)) (hs : starEach [a, b] X.env = [(false, eval a X.env), (false, eval b X.env)] := by rfl) (hs2 : starEach [b] X.env = [(false, eval b X.env)] := by rfl) : PI X tg (.Call (.Name "range" p) [a, b] [] pos) (tI X.K (eAs rng2 f)) := PIw (pi_range2 (hs := hs) (hs2 := hs2) hg hm h) fun σ H R q => by
  obtain ⟨B, F, ρ, Rl, xs, ρ', e, k⟩ := q
  obtain ⟨as, ρ1, e1, e2⟩ := eb_some e
  obtain ⟨ys, e3, e4⟩ := eo_some e2
  cases e4
  refine ⟨B, F, ρ, Rl, as, _, e1, fun F' H' v s R' d => ?_⟩
  unfold rng2 at e3
  split at e3
  · rename_i i j
    split at e3
    · rename_i hj
      rw [Bool.and_eq_true] at hj
      cases e3
      cases d with
      | cons dx dr =>
        cases dx
        cases dr with
        | cons dy dr =>
          cases dy
          cases dr
          exact ⟨i, j, rfl, ⟨(in62_ok hj.1).1, (in62_ok hj.1).2, (in62_ok hj.2).1, (in62_ok hj.2).2⟩, k F' H' _ s R' wk_range⟩
    · cases e3
  · cases e3
/-! ### for -/
def forL (b : Bd) (s : SS) : List D → SS
  | [] => fun ρ => some (.nx, ρ)
  | x :: r => fun ρ => match b x ρ with
    | none => none
    | some ρ1 => match s ρ1 with
      | none => none
      | some (.nx, ρ2) => forL b s r ρ2
      | some (.ct, ρ2) => forL b s r ρ2
      | some (.bk, ρ2) => some (.nx, ρ2)
      | some (.rt w, ρ2) => some (.rt w, ρ2)
def sFor (src : ES (List D)) (b : Bd) (s : SS) : SS := fun ρ => match src ρ with
  | some (xs, ρ1) => forL b s xs ρ1
  | none => none
theorem w_for {src : ES (List D)} {b : Bd} {s : SS} {vs : List Nat} {g : TG} (hg : GOk K vs g b) {D : Ends} {σ : L2.St} {H : Hp} (h : tS K ps (sFor src b s) D σ H) : tFor (tI K src) g (tS K ps s) D σ H := by
  obtain ⟨B, F, ρ, R, hp, fl, ρ', e, k⟩ := h
  unfold sFor at e
  split at e
  · rename_i xs ρ1 e1
    refine ⟨B, F, ρ, R, xs, ρ1, e1, fun F1 H1 J s1 R1 wk => ?_⟩
    refine ⟨fun i m σ H => xs.length = i + m ∧ ∃ F2 ρ2, Same F1 F2 ∧ Rel K B σ ρ2 F2 H ∧ forL b s (xs.drop i) ρ2 = some (fl, ρ'), ⟨xs.length, by omega, F1, ρ1, Same.refl _, R1, by simpa using e⟩, ?_⟩
    rintro i m σ2 H2 ⟨em, F2, ρ2, s2, R2, e2⟩
    obtain ⟨w1, w2⟩ := wk F2 H2 s2 R2.sub
    by_cases hi : i < xs.length
    · have hx : xs[i]? = some xs[i] := List.getElem?_eq_getElem hi
      obtain ⟨go, yl⟩ := w1 i _ hx
      rw [List.drop_eq_getElem_cons hi] at e2
      unfold forL at e2
      refine .inr ⟨go, fun σ' H' => ∃ F3 ρ3, Same F1 F3 ∧ Rel K B σ' ρ3 F3 H' ∧ forL b s (xs.drop (i + 1)) ρ3 = some (fl, ρ'), fun σ' H' z => ⟨m - 1, by omega, by omega, z⟩, fun v H' y => ?_⟩
      obtain ⟨F3, gr, d⟩ := yl v H' y
      obtain ⟨R3, s3⟩ := R2.gr gr
      cases eb1 : b xs[i] ρ2 with
      | none => rw [eb1] at e2; cases e2
      | some ρ3 =>
        rw [eb1] at e2
        refine hg B F3 H' σ2 ρ2 v _ ρ3 _ R3 d eb1 fun F4 H4 σ4 s4 R4 _ => ?_
        have st := s2.trans (s3.trans s4)
        cases es : s ρ3 with
        | none => simp only [es] at e2; cases e2
        | some q =>
          obtain ⟨f2, ρ5⟩ := q
          simp only [es] at e2
          refine ⟨B, F4, ρ3, R4, hp, f2, ρ5, es, ?_⟩
          cases f2 with
          | nx => exact fun F5 H5 σ5 s5 R5 => ⟨F5, ρ5, st.trans s5, R5, e2⟩
          | ct => exact fun F5 H5 σ5 s5 R5 => ⟨F5, ρ5, st.trans s5, R5, e2⟩
          | bk => cases e2; exact fun F5 H5 σ5 s5 R5 => k F5 H5 σ5 (s1.trans (st.trans s5)) R5
          | rt w => cases e2; exact fun F5 H5 σ5 v s5 R5 => k F5 H5 σ5 v (s1.trans (st.trans s5)) R5
    · have ei : i = xs.length := by omega
      subst ei
      rw [List.drop_length] at e2
      cases e2
      exact .inl ⟨w2, k F2 H2 σ2 (s1.trans s2) R2⟩
  · cases e
theorem sfor {tg iter : Expr} {body : List Stmt} {pos : Pos} {src : ES (List D)} {b : Bd} {s : SS} {vs : List Nat} {g : TG} (hc : X.calm = true) (hi : PI X tg iter (tI X.K src)) (hg : PG X tg g) (gk : GOk X.K vs g b) (hb : PSs X body (tS X.K ps s))
    (hs : ∀ x, foldedSetIterable iter X.env x = pure x := by intro _; rfl) (hp : PassesOwn (model X.prog X.w) X.A X.env X.xe := by exact PassesOwn.never) : PS X (.For tg iter body [] pos) (tS X.K ps (sFor src b s)) :=
  PSw (ps_for hp hc hi hg hb hs) fun _ _ _ => w_for gk
end
end CS
set_option Elab.async false
set_option linter.all false
set_option maxRecDepth 100000
set_option maxHeartbeats 4000000
set_option autoImplicit false
namespace CS
open PySem PySem.Spec PyProof.Rows L2
/-! ### list comprehensions -/
def wipeE : List Nat → En → En
  | [], ρ => ρ
  | v :: vs, ρ => (wipeE vs ρ).set v none
def restE : List Nat → En → En → En
  | [], _, ρ => ρ
  | v :: vs, ρ0, ρ => (restE vs ρ0 ρ).set v ((ρ0[v]?).getD none)
def fits (n : Nat) : Bool := Nat.ble n 16777216
theorem fits_ok {n : Nat} (h : fits n = true) : n ≤ sizeLine := by
  rw [sizeLine_eq]
  exact Nat.le_of_ble_eq_true h
def lcL (vs : List Nat) (b : Bd) (t : ES Bool) (el : ES D) : List D → ES (List D)
  | [] => ep []
  | x :: r => fun ρ => match b x ρ with
    | none => none
    | some ρ1 => match t ρ1 with
      | none => none
      | some (false, ρ2) => lcL vs b t el r (wipeE vs ρ2)
      | some (true, ρ2) => match el ρ2 with
        | none => none
        | some (y, ρ3) => match lcL vs b t el r (wipeE vs ρ3) with
          | none => none
          | some (ys, ρ4) => some (y :: ys, ρ4)
def anyM (ρ : En) : List Nat → Bool
  | [] => false
  | i :: is => isM ρ i || anyM ρ is
def eLc (vs : List Nat) (src : ES (List D)) (b : Bd) (t : ES Bool) (el : ES D) : ES (List D) := fun ρ => match src ρ with
  | none => none
  | some (xs, ρ1) => match anyM ρ1 vs with
    | true => none
    | false => match lcL vs b t el xs (wipeE vs ρ1) with
      | none => none
      | some (ys, ρ2) => match fits ys.length with
        | true => some (ys, restE vs ρ1 ρ2)
        | false => none
theorem wipeE_len (ρ : En) : ∀ vs : List Nat, (wipeE vs ρ).length = ρ.length
  | [] => rfl
  | v :: vs => by unfold wipeE; rw [List.length_set, wipeE_len ρ vs]
theorem restE_len (ρ0 ρ : En) : ∀ vs : List Nat, (restE vs ρ0 ρ).length = ρ.length
  | [] => rfl
  | v :: vs => by unfold restE; rw [List.length_set, restE_len ρ0 ρ vs]
theorem wipeE_get (ρ : En) (j : Nat) : ∀ vs : List Nat, (wipeE vs ρ)[j]? = if j ∈ vs ∧ j < ρ.length then some none else ρ[j]?
  | [] => by simp [wipeE]
  | v :: vs => by
    unfold wipeE
    rw [List.getElem?_set, wipeE_get ρ j vs]
    by_cases h1 : v = j
    · subst h1
      rw [if_pos rfl]
      by_cases h2 : v < ρ.length
      · rw [if_pos (by rw [wipeE_len]; exact h2), if_pos ⟨List.mem_cons_self, h2⟩]
      · rw [if_neg (by rw [wipeE_len]; exact h2), if_neg (fun z => h2 z.2), List.getElem?_eq_none (by omega)]
    · rw [if_neg h1]
      by_cases h2 : j ∈ vs ∧ j < ρ.length
      · rw [if_pos h2, if_pos ⟨List.mem_cons_of_mem _ h2.1, h2.2⟩]
      · rw [if_neg h2, if_neg (fun z => h2 ⟨by rcases List.mem_cons.mp z.1 with q | q; exact absurd q.symm h1; exact q, z.2⟩)]
theorem restE_get (ρ0 ρ : En) (j : Nat) : ∀ vs : List Nat, (restE vs ρ0 ρ)[j]? = if j ∈ vs ∧ j < ρ.length then some ((ρ0[j]?).getD none) else ρ[j]?
  | [] => by simp [restE]
  | v :: vs => by
    unfold restE
    rw [List.getElem?_set, restE_get ρ0 ρ j vs]
    by_cases h1 : v = j
    · subst h1
      rw [if_pos rfl]
      by_cases h2 : v < ρ.length
      · rw [if_pos (by rw [restE_len]; exact h2), if_pos ⟨List.mem_cons_self, h2⟩]
      · rw [if_neg (by rw [restE_len]; exact h2), if_neg (fun z => h2 z.2), List.getElem?_eq_none (by omega)]
    · rw [if_neg h1]
      by_cases h2 : j ∈ vs ∧ j < ρ.length
      · rw [if_pos h2, if_pos ⟨List.mem_cons_of_mem _ h2.1, h2.2⟩]
      · rw [if_neg h2, if_neg (fun z => h2 ⟨by rcases List.mem_cons.mp z.1 with q | q; exact absurd q.symm h1; exact q, z.2⟩)]
theorem wipe_get (σ : L2.St) (j : Nat) : ∀ vs : List Nat, (L2.wipe σ vs)[j]? = if j ∈ vs ∧ j < σ.length then some none else σ[j]?
  | [] => by simp [L2.wipe]
  | v :: vs => by
    unfold L2.wipe
    rw [List.getElem?_set, wipe_get σ j vs]
    by_cases h1 : v = j
    · subst h1
      rw [if_pos rfl]
      by_cases h2 : v < σ.length
      · rw [if_pos (by rw [wipe_length]; exact h2), if_pos ⟨List.mem_cons_self, h2⟩]
      · rw [if_neg (by rw [wipe_length]; exact h2), if_neg (fun z => h2 z.2), List.getElem?_eq_none (by omega)]
    · rw [if_neg h1]
      by_cases h2 : j ∈ vs ∧ j < σ.length
      · rw [if_pos h2, if_pos ⟨List.mem_cons_of_mem _ h2.1, h2.2⟩]
      · rw [if_neg h2, if_neg (fun z => h2 ⟨by rcases List.mem_cons.mp z.1 with q | q; exact absurd q.symm h1; exact q, z.2⟩)]
theorem anyM_false {ρ : En} : ∀ {vs : List Nat}, anyM ρ vs = false → ∀ i ∈ vs, ∀ xs, ρ[i]? ≠ some (some (.m xs))
  | [], _, i, hi => by simp at hi
  | v :: vs, h, i, hi => by
    unfold anyM at h
    rw [Bool.or_eq_false_iff] at h
    rcases List.mem_cons.mp hi with rfl | q
    · exact isM_false h.1
    · exact anyM_false h.2 i q
section
variable {K : PySem.W.Frag} {B : Bs} {σ : L2.St} {ρ : En} {F H : Hp}
theorem wipeE_some {vs : List Nat} {ρ : En} {j : Nat} {w : W} (h : (wipeE vs ρ)[j]? = some (some w)) : j ∉ vs ∧ ρ[j]? = some (some w) := by
  rw [wipeE_get] at h
  split at h
  · cases h
  · rename_i n
    refine ⟨fun z => ?_, h⟩
    by_cases hl : j < ρ.length
    · exact n ⟨z, hl⟩
    · rw [List.getElem?_eq_none (by omega)] at h; cases h
theorem wipe_out' {vs : List Nat} {σ : L2.St} {j : Nat} (h : j ∉ vs) : (L2.wipe σ vs)[j]? = σ[j]? := by
  rw [wipe_get, if_neg (fun z => h z.1)]
theorem Rel.wiped (R : Rel K B σ ρ F H) (vs : List Nat) (hp : ∀ p ∈ B.pins, p.1 ∉ vs) : Rel K B (L2.wipe σ vs) (wipeE vs ρ) F H := by
  refine ⟨R.sub, R.f0, R.new, R.kept, fun j w e => ?_, fun j xs a e1 e2 => ?_, fun j k xs ys a e1 e2 e3 e4 => ?_, fun p hq => ?_, by rw [wipeE_len, wipe_length]; exact R.len⟩
  · obtain ⟨h1, h2⟩ := wipeE_some e
    obtain ⟨v, q1, q2⟩ := R.slot j w h2
    exact ⟨v, by rw [wipe_out' h1]; exact q1, q2⟩
  · obtain ⟨h1, h2⟩ := wipeE_some e1
    rw [wipe_out' h1] at e2
    exact R.own j xs a h2 e2
  · obtain ⟨h1, h2⟩ := wipeE_some e1
    obtain ⟨h3, h4⟩ := wipeE_some e2
    rw [wipe_out' h1] at e3
    rw [wipe_out' h3] at e4
    exact R.sep j k xs ys a h2 h4 e3 e4
  · obtain ⟨q1, xs, q2⟩ := R.pin p hq
    rw [wipe_out' (hp p hq), wipeE_get, if_neg (fun z => hp p hq z.1)]
    exact ⟨q1, xs, q2⟩
/-- what is beside all changes -/
theorem Rel.poke (R : Rel K B σ ρ F H) {a : Addr} {o : HO} (hf : F a = none) (h0 : B.H0 a = none) (no : ∀ (j : Nat) ys, ρ[j]? = some (some (.m ys)) → σ[j]? ≠ some (some (.ref a))) : Rel K B σ ρ F (upd H a o) := by
  refine ⟨fun b x e => ?_, R.f0, R.new, fun b x e hx => ?_, fun j w e => ?_, R.own, R.sep, R.pin, R.len⟩
  · have nb : b ≠ a := fun z => by subst z; rw [hf] at e; cases e
    rw [upd_ne nb]; exact R.sub _ _ e
  · have nb : b ≠ a := fun z => by subst z; rw [h0] at e; cases e
    rw [upd_ne nb]; exact R.kept _ _ e hx
  · obtain ⟨v, q1, q2⟩ := R.slot j w e
    refine ⟨v, q1, ?_⟩
    cases w with
    | d x => exact q2
    | m ys =>
      obtain ⟨b, us, rfl, q3, q4, q5⟩ := q2
      have nb : b ≠ a := fun z => by subst z; exact no j ys e q1
      exact ⟨b, us, rfl, by rw [upd_ne nb]; exact q3, q4, q5⟩
/-- out of a block again: its slots as they were -/
theorem Rel.unwipe {vs : List Nat} {ρ0 : En} {F0 H0 : Hp} (R0 : Rel K B σ ρ0 F0 H0) (hm : ∀ i ∈ vs, ∀ xs, ρ0[i]? ≠ some (some (.m xs))) (s : Same F0 F) (R : Rel K B (L2.wipe σ vs) ρ F H) : Rel K B σ (restE vs ρ0 ρ) F H := by
  have hp : ∀ p ∈ B.pins, p.1 ∉ vs := fun p hq z => let ⟨xs, q⟩ := (R0.pin p hq).2; hm _ z xs q
  have hl : ρ.length = σ.length := by rw [R.len, wipe_length]
  have get : ∀ (j : Nat) (w : W), (restE vs ρ0 ρ)[j]? = some (some w) → (j ∈ vs ∧ ρ0[j]? = some (some w)) ∨ (j ∉ vs ∧ ρ[j]? = some (some w)) := fun j w e => by
    rw [restE_get] at e
    split at e
    · rename_i z
      refine .inl ⟨z.1, ?_⟩
      cases q : ρ0[j]? with
      | none => rw [q] at e; cases e
      | some o => rw [q] at e; exact e
    · rename_i z
      refine .inr ⟨fun h => ?_, e⟩
      by_cases hj : j < ρ.length
      · exact z ⟨h, hj⟩
      · rw [List.getElem?_eq_none (by omega)] at e; cases e
  refine ⟨R.sub, R.f0, R.new, R.kept, fun j w e => ?_, fun j xs a e1 e2 => ?_, fun j k xs ys a e1 e2 e3 e4 => ?_, fun p hq => ?_, by rw [restE_len]; exact hl⟩
  · rcases get j w e with ⟨h1, h2⟩ | ⟨h1, h2⟩
    · obtain ⟨v, q1, q2⟩ := R0.slot j w h2
      refine ⟨v, q1, ?_⟩
      cases w with
      | d x => exact Dpm s q2
      | m ys => exact absurd h2 (hm j h1 ys)
    · obtain ⟨v, q1, q2⟩ := R.slot j w h2
      rw [wipe_out' h1] at q1
      exact ⟨v, q1, q2⟩
  · rcases get j _ e1 with ⟨h1, h2⟩ | ⟨h1, h2⟩
    · exact absurd h2 (hm j h1 xs)
    · exact R.own j xs a h2 (by rw [wipe_out' h1]; exact e2)
  · rcases get j _ e1 with ⟨h1, h2⟩ | ⟨h1, h2⟩
    · exact absurd h2 (hm j h1 xs)
    · rcases get k _ e2 with ⟨h3, h4⟩ | ⟨h3, h4⟩
      · exact absurd h4 (hm k h3 ys)
      · exact R.sep j k xs ys a h2 h4 (by rw [wipe_out' h1]; exact e3) (by rw [wipe_out' h3]; exact e4)
  · obtain ⟨q1, xs, q2⟩ := R.pin p hq
    rw [wipe_out' (hp p hq)] at q1
    rw [restE_get, if_neg (fun z => hp p hq z.1)]
    exact ⟨q1, xs, q2⟩
/-- a place beside stays beside -/
def Bes (σ : L2.St) (ρ : En) (F H : Hp) (D : Addr) (us : List V) : Prop := H D = some (.lst us) ∧ F D = none ∧ ∀ (j : Nat) ys, ρ[j]? = some (some (.m ys)) → σ[j]? ≠ some (some (.ref D))
theorem Bes.after {σ2 : L2.St} {ρ2 : En} {F2 H2 : Hp} {D : Addr} {us : List V} (b : Bes σ ρ F H D us) (R2 : Rel K (bsOf σ ρ F H) σ2 ρ2 F2 H2) : Bes σ2 ρ2 F2 H2 D us := by
  obtain ⟨h1, h2, h3⟩ := b
  refine ⟨R2.stay h1 h3, none_of_not fun q => ?_, fun j ys e e' => ?_⟩
  · rcases R2.new D q with z | z
    · exact z h2
    · rw [show (bsOf σ ρ F H).H0 D = H D from rfl, h1] at z; cases z
  · rcases R2.own j ys D e e' with z | z
    · rw [show (bsOf σ ρ F H).H0 D = H D from rfl, h1] at z; cases z
    · obtain ⟨⟨xs, q1⟩, q2⟩ := mem_pinsOf.mp z
      exact h3 j xs q1 q2
theorem Bes.gr {F' H' : Hp} {D : Addr} {us : List V} (b : Bes σ ρ F H D us) (g : Gr F H F' H') : Bes σ ρ F' H' D us := by
  induction g with
  | refl => exact b
  | step g hp ih =>
    obtain ⟨h1, h2, h3⟩ := ih
    have ne := ne_of_none h1 hp
    exact ⟨by rw [upd_ne ne]; exact h1, by rw [upd_ne ne]; exact h2, h3⟩
end
/-- what a turn of such a loop does, told by its function L -/
def Turns (vs : List Nat) (b : Bd) (t : ES Bool) (el : ES D) (P : En → Prop) (L : List D → ES (List D)) : Prop :=
  (∀ ρ z, L [] ρ = some z → z = ([], ρ)) ∧ ∀ x r ρ zs ρe, L (x :: r) ρ = some (zs, ρe) → ∃ ρ1 c ρ2, b x ρ = some ρ1 ∧ t ρ1 = some (c, ρ2) ∧
    ((c = false ∧ P (wipeE vs ρ2) ∧ L r (wipeE vs ρ2) = some (zs, ρe)) ∨ (c = true ∧ ∃ y ρ3 zs', el ρ2 = some (y, ρ3) ∧ P (wipeE vs ρ3) ∧ L r (wipeE vs ρ3) = some (zs', ρe) ∧ zs = y :: zs'))
theorem turns_lcL (vs : List Nat) (b : Bd) (t : ES Bool) (el : ES D) : Turns vs b t el (fun _ => True) (lcL vs b t el) := by
  refine ⟨fun ρ z h => by cases h; rfl, fun x r ρ zs ρe h => ?_⟩
  unfold lcL at h
  cases q1 : b x ρ with
  | none => simp only [q1] at h; cases h
  | some ρ1 =>
    simp only [q1] at h
    cases q2 : t ρ1 with
    | none => simp only [q2] at h; cases h
    | some p =>
      obtain ⟨c, ρ2⟩ := p
      cases c with
      | false =>
        simp only [q2] at h
        exact ⟨ρ1, _, ρ2, rfl, q2, .inl ⟨rfl, trivial, h⟩⟩
      | true =>
        simp only [q2] at h
        cases q3 : el ρ2 with
        | none => simp only [q3] at h; cases h
        | some p =>
          obtain ⟨y, ρ3⟩ := p
          simp only [q3] at h
          cases q4 : lcL vs b t el r (wipeE vs ρ3) with
          | none => simp only [q4] at h; cases h
          | some p =>
            obtain ⟨zs', ρ4⟩ := p
            simp only [q4] at h
            cases h
            exact ⟨ρ1, _, ρ2, rfl, q2, .inr ⟨rfl, y, ρ3, zs', q3, trivial, q4, rfl⟩⟩
section
variable {K : PySem.W.Frag} {X : Cx}
/-- the loop of a comprehension -/
theorem lc_go {vs : List Nat} {b : Bd} {t : ES Bool} {el : ES D} {g : TG} {tt : TT} {P : En → Prop} {L : List D → ES (List D)} (hg : GOk K vs g b) (ht : ∀ σ H Q, tT K t σ H Q → tt σ H Q) (tl : Turns vs b t el P L) {B : Bs} {σ : L2.St} {ρ1 ρ2 : En} {F1 H1 : Hp} {D : Addr} {us0 : List V} {acc0 xs zs : List CS.D} {J : It}
    (wk : ∀ ρ F H, Rel K B (L2.wipe σ vs) ρ F H → Same F1 F → P ρ → (∀ (i : Nat) x, xs[i]? = some x → J.go i H ∧ ∀ v H', J.yld i H v H' → ∃ F', Gr F H F' H' ∧ Dp K F' v x) ∧ J.stop xs.length H)
    (R1 : Rel K B (L2.wipe σ vs) ρ1 F1 H1) (hP : P ρ1) (bs : Bes (L2.wipe σ vs) ρ1 F1 H1 D us0) (d0 : DpAll K F1 us0 acc0) (h0 : B.H0 D = none) (hz : (acc0 ++ zs).length ≤ sizeLine) (e : L xs ρ1 = some (zs, ρ2)) {Stop : Hp → Prop}
    (k : ∀ F2 H2 us, Same F1 F2 → Rel K B (L2.wipe σ vs) ρ2 F2 H2 → Bes (L2.wipe σ vs) ρ2 F2 H2 D us → DpAll K F2 us (acc0 ++ zs) → Stop H2) :
    ∃ W : Nat → Nat → Hp → Prop, (∃ m, W 0 m H1) ∧ ∀ i m H, W i m H → (J.stop i H ∧ Stop H) ∨ (J.go i H ∧ ∃ Nx : Hp → Prop, (∀ H', Nx H' → ∃ m', m' < m ∧ W (i + 1) m' H') ∧ ∀ x H', J.yld i H x H' → g x (L2.wipe σ vs) H' fun σ2 H2 => L2.wipe σ2 vs = L2.wipe σ vs ∧ tt σ2 H2 fun b H3 =>
      if b = true then tE K el σ2 H3 fun y H4 => ∃ acc, H4 D = some (.lst acc) ∧ acc.length < sizeLine ∧ Nx (upd H4 D (.lst (acc ++ [y]))) else Nx H3) := by
  refine ⟨fun i m H => xs.length = i + m ∧ ∃ F2 ρ3 acc us zs2, Same F1 F2 ∧ Rel K B (L2.wipe σ vs) ρ3 F2 H ∧ P ρ3 ∧ Bes (L2.wipe σ vs) ρ3 F2 H D us ∧ DpAll K F2 us acc ∧ L (xs.drop i) ρ3 = some (zs2, ρ2) ∧ acc ++ zs2 = acc0 ++ zs,
    ⟨xs.length, by omega, F1, _, acc0, us0, zs, Same.refl _, R1, hP, bs, d0, by simpa using e, rfl⟩, ?_⟩
  rintro i m H2 ⟨em, F2, ρ3, acc, us, zs2, s2, R2, hP2, bs2, da, e3, ez⟩
  obtain ⟨w1, w2⟩ := wk ρ3 F2 H2 R2 s2 hP2
  by_cases hi : i < xs.length
  · have hx : xs[i]? = some xs[i] := List.getElem?_eq_getElem hi
    obtain ⟨go, yl⟩ := w1 i _ hx
    rw [List.drop_eq_getElem_cons hi] at e3
    obtain ⟨ρ4, c, ρ5, qb, qt, e4⟩ := tl.2 _ _ _ _ _ e3
    refine .inr ⟨go, fun H' => ∃ F3 ρ4 acc us zs2, Same F1 F3 ∧ Rel K B (L2.wipe σ vs) ρ4 F3 H' ∧ P ρ4 ∧ Bes (L2.wipe σ vs) ρ4 F3 H' D us ∧ DpAll K F3 us acc ∧ L (xs.drop (i + 1)) ρ4 = some (zs2, ρ2) ∧ acc ++ zs2 = acc0 ++ zs, fun H' z => ⟨m - 1, by omega, by omega, z⟩, fun v H' y => ?_⟩
    obtain ⟨F3, gr, d⟩ := yl v H' y
    obtain ⟨R3, s3⟩ := R2.gr gr
    have bs3 := bs2.gr gr
    have ww : L2.wipe (L2.wipe σ vs) vs = L2.wipe σ vs := Ag.wipe ⟨wipe_length _ _, fun j hj => wipe_out' hj⟩
    refine hg _ F3 H' (L2.wipe σ vs) ρ3 v _ ρ4 _ R3.rebase d qb fun F4 H4 σ4 s4 R4 ag => ⟨ag.wipe.trans ww, ?_⟩
    refine ht _ _ _ ⟨_, F4, ρ4, R4, c, ρ5, qt, fun F5 H5 s5 R5 => ?_⟩
    have out : ∀ {F6 H6 : Hp} {ρ6 : En}, Rel K (bsOf (L2.wipe σ vs) ρ3 F3 H') σ4 ρ6 F6 H6 → Rel K B (L2.wipe σ vs) (wipeE vs ρ6) F6 H6 ∧ Bes (L2.wipe σ vs) (wipeE vs ρ6) F6 H6 D us := fun {F6 H6 ρ6} R6 => by
      have hp6 : ∀ p ∈ (bsOf (L2.wipe σ vs) ρ3 F3 H').pins, p.1 ∉ vs := fun p hq z => by
        obtain ⟨⟨ws, q1⟩, q2⟩ := mem_pinsOf.mp (show (p.1, p.2) ∈ pinsOf _ _ from hq)
        rw [wipe_get] at q2
        split at q2
        · cases q2
        · rename_i n
          refine n ⟨z, ?_⟩
          by_cases hl : p.1 < σ.length
          · exact hl
          · rw [List.getElem?_eq_none (by omega)] at q2; cases q2
      have R6w := R6.wiped vs hp6
      rw [ag.wipe, ww] at R6w
      exact ⟨R3.back R6w, bs3.after R6w⟩
    rcases e4 with ⟨rfl, p5, e5⟩ | ⟨rfl, y1, ρ6, zs3, qe, p6, e6, e7⟩
    · obtain ⟨o1, o2⟩ := out R5
      exact iteF ⟨F5, _, acc, us, zs2, s2.trans (s3.trans (s4.trans s5)), o1, p5, o2, DpmA (s3.trans (s4.trans s5)) da, e5, ez⟩
    · subst e7
      refine iteT ⟨_, F5, ρ5, R5, y1, ρ6, qe, fun F6 H6 w s6 R6 d6 => ?_⟩
      obtain ⟨o1, o2⟩ := out R6
      have st := s3.trans (s4.trans (s5.trans s6))
      refine ⟨us, o2.1, ?_, F6, _, acc ++ [y1], us ++ [w], zs3, s2.trans st, o1.poke o2.2.1 h0 o2.2.2, p6, ⟨upd_same, o2.2⟩, DpAll.app (DpmA st da) (.cons d6 .nil), e6, by rw [← ez]; simp⟩
      have h1 : us.length = acc.length := DpAll.len da
      rw [← ez, List.length_append, List.length_cons] at hz
      omega
  · have ei : i = xs.length := by omega
    subst ei
    rw [List.drop_length] at e3
    cases tl.1 _ _ e3
    rw [List.append_nil] at ez
    rw [← ez] at k
    exact .inl ⟨w2, k F2 H2 us s2 R2 bs2 da⟩
theorem bes_start {B : Bs} {σ : L2.St} {ρ : En} {F H : Hp} {vs : List Nat} (R : Rel K B σ ρ F H) {D : Addr} (nD : H D = none) : Bes (L2.wipe σ vs) (wipeE vs ρ) F (upd H D (.lst [])) D [] := by
  refine ⟨upd_same, R.sub.free nD, fun j ws e e' => ?_⟩
  obtain ⟨q1, q2⟩ := wipeE_some e
  rw [wipe_out' q1] at e'
  obtain ⟨a, _, q3, q4, _⟩ := R.mad q2
  rw [e'] at q3; cases q3
  rw [nD] at q4; cases q4
/-- the list is handed on -/
theorem lc_end {B : Bs} {σ : L2.St} {ρ1 ρ2 : En} {F F1 H1 F2 H2 : Hp} {vs : List Nat} {D : Addr} {us : List V} {zs : List CS.D} {Q : VK} (s1 : Same F F1) (R1 : Rel K B σ ρ1 F1 H1) (hm : ∀ i ∈ vs, ∀ xs, ρ1[i]? ≠ some (some (.m xs))) (nD : H1 D = none)
    (k : ∀ F' H' a us, Same F F' → Rel K B σ (restE vs ρ1 ρ2) F' H' → H' a = some (.lst us) → F' a = none → DpAll K F' us zs → B.H0 a = none → (∀ (j : Nat) ys, (restE vs ρ1 ρ2)[j]? = some (some (.m ys)) → σ[j]? ≠ some (some (.ref a))) → Q (.ref a) H')
    (s2 : Same F1 F2) (R2 : Rel K B (L2.wipe σ vs) ρ2 F2 H2) (bs2 : Bes (L2.wipe σ vs) ρ2 F2 H2 D us) (da : DpAll K F2 us zs) : Q (.ref D) H2 := by
  obtain ⟨h1, h2, h3⟩ := bs2
  refine k F2 H2 D us (s1.trans s2) (Rel.unwipe R1 hm s2 R2) h1 h2 da (R1.free0 nD) fun j ws e e' => ?_
  rw [restE_get] at e
  split at e
  · rename_i z
    cases q : ρ1[j]? with
    | none => rw [q] at e; cases e
    | some o =>
      rw [q] at e
      exact hm j z.1 ws (q.trans e)
  · rename_i z
    have hj : j ∉ vs := fun q => z ⟨q, by
      refine Classical.byContradiction fun hl => ?_
      rw [List.getElem?_eq_none (Nat.le_of_not_lt hl)] at e
      cases e⟩
    exact h3 j ws e (by rw [wipe_out' hj]; exact e')
theorem w_lc {vs : List Nat} {src : ES (List D)} {b : Bd} {t : ES Bool} {el : ES D} {g : TG} {tt : TT} (hg : GOk K vs g b) (ht : ∀ σ H Q, tT K t σ H Q → tt σ H Q) {σ : L2.St} {H : Hp} {Q : VK} (h : tN K (eLc vs src b t el) σ H Q) :
    tLc (tI K src) g tt (tE K el) vs σ H Q := by
  obtain ⟨B, F, ρ, R, zs, ρ', e, k⟩ := h
  unfold eLc at e
  split at e
  · cases e
  rename_i xs ρ1 e1
  split at e
  · cases e
  rename_i hm
  have hm := anyM_false hm
  split at e
  · cases e
  rename_i ys ρ2 e2
  split at e
  rotate_left
  · cases e
  rename_i hfit
  cases e
  refine ⟨B, F, ρ, R, xs, ρ1, e1, fun F1 H1 J s1 R1 wk D nD => ?_⟩
  have hps : ∀ p ∈ B.pins, p.1 ∉ vs := fun p hq z => let ⟨xs, q⟩ := (R1.pin p hq).2; hm _ z xs q
  exact lc_go (σ := σ) (J := J) hg ht (turns_lcL vs b t el) (fun ρ F H R s _ => wk F H s R.sub) ((R1.wiped vs hps).beside nD) trivial (bes_start R1 nD) .nil (R1.free0 nD) (fits_ok hfit) e2 fun F2 H2 us s2 R2 bs2 da => lc_end s1 R1 hm nD k s2 R2 bs2 da
/-! two sources -/
end
def lc2L (vs vs1 : List Nat) (b : Bd) (t : ES Bool) (src1 : ES (List D)) (b1 : Bd) (t1 : ES Bool) (el : ES D) : List D → ES (List D)
  | [] => ep []
  | x :: r => fun ρ => match b x ρ with
    | none => none
    | some ρ1 => match t ρ1 with
      | none => none
      | some (false, ρ2) => lc2L vs vs1 b t src1 b1 t1 el r (wipeE vs ρ2)
      | some (true, ρ2) => match src1 ρ2 with
        | none => none
        | some (xs1, ρ3) => match anyM ρ3 vs1 with
          | true => none
          | false => match lcL vs1 b1 t1 el xs1 (wipeE vs1 ρ3) with
            | none => none
            | some (ys, ρ4) => match lc2L vs vs1 b t src1 b1 t1 el r (wipeE vs ρ4) with
              | none => none
              | some (zs, ρ5) => some (ys ++ zs, ρ5)
def eLc2 (vs vs1 : List Nat) (src : ES (List D)) (b : Bd) (t : ES Bool) (src1 : ES (List D)) (b1 : Bd) (t1 : ES Bool) (el : ES D) : ES (List D) := fun ρ => match src ρ with
  | none => none
  | some (xs, ρ1) => match anyM ρ1 vs with
    | true => none
    | false => match lc2L vs vs1 b t src1 b1 t1 el xs (wipeE vs ρ1) with
      | none => none
      | some (ys, ρ2) => match fits ys.length with
        | true => some (ys, restE vs ρ1 ρ2)
        | false => none
section
variable {K : PySem.W.Frag} {X : Cx}
theorem w_lc2 {vs vs1 : List Nat} {src src1 : ES (List D)} {b b1 : Bd} {t t1 : ES Bool} {el : ES D} {g g1 : TG} {tt tt1 : TT} (hv : ∀ i ∈ vs1, i ∈ vs) (hg : GOk K vs g b) (ht : ∀ σ H Q, tT K t σ H Q → tt σ H Q) (hg1 : GOk K vs1 g1 b1) (ht1 : ∀ σ H Q, tT K t1 σ H Q → tt1 σ H Q) {σ : L2.St} {H : Hp} {Q : VK} (h : tN K (eLc2 vs vs1 src b t src1 b1 t1 el) σ H Q) :
    tLc2 (tI K src) g tt (tI K src1) g1 tt1 (tE K el) vs vs1 σ H Q := by
  obtain ⟨B, F, ρ, R, zs, ρ', e, k⟩ := h
  unfold eLc2 at e
  split at e
  · cases e
  rename_i xs ρ1 e1
  split at e
  · cases e
  rename_i hm
  have hm := anyM_false hm
  split at e
  · cases e
  rename_i ys ρ2 e2
  split at e
  rotate_left
  · cases e
  rename_i hfit
  cases e
  have hfit := fits_ok hfit
  refine ⟨B, F, ρ, R, xs, ρ1, e1, fun F1 H1 J s1 R1 wk D nD => ?_⟩
  have hps : ∀ p ∈ B.pins, p.1 ∉ vs := fun p hq z => let ⟨xs, q⟩ := (R1.pin p hq).2; hm _ z xs q
  have h0 : B.H0 D = none := R1.free0 nD
  refine ⟨fun i m H => xs.length = i + m ∧ ∃ F2 ρ3 acc us zs2, Same F1 F2 ∧ Rel K B (L2.wipe σ vs) ρ3 F2 H ∧ Bes (L2.wipe σ vs) ρ3 F2 H D us ∧ DpAll K F2 us acc ∧ lc2L vs vs1 b t src1 b1 t1 el (xs.drop i) ρ3 = some (zs2, ρ2) ∧ acc ++ zs2 = zs,
    ⟨xs.length, by omega, F1, _, [], [], zs, Same.refl _, (R1.wiped vs hps).beside nD, bes_start R1 nD, .nil, by simpa using e2, by simp⟩, ?_⟩
  rintro i m H2 ⟨em, F2, ρ3, acc, us, zs2, s2, R2, bs2, da, e3, ez⟩
  obtain ⟨w1, w2⟩ := wk F2 H2 s2 R2.sub
  by_cases hi : i < xs.length
  · have hx : xs[i]? = some xs[i] := List.getElem?_eq_getElem hi
    obtain ⟨go, yl⟩ := w1 i _ hx
    rw [List.drop_eq_getElem_cons hi] at e3
    unfold lc2L at e3
    refine .inr ⟨go, fun H' => ∃ F3 ρ4 acc us zs2, Same F1 F3 ∧ Rel K B (L2.wipe σ vs) ρ4 F3 H' ∧ Bes (L2.wipe σ vs) ρ4 F3 H' D us ∧ DpAll K F3 us acc ∧ lc2L vs vs1 b t src1 b1 t1 el (xs.drop (i + 1)) ρ4 = some (zs2, ρ2) ∧ acc ++ zs2 = zs, fun H' z => ⟨m - 1, by omega, by omega, z⟩, fun v H' y => ?_⟩
    obtain ⟨F3, gr, d⟩ := yl v H' y
    obtain ⟨R3, s3⟩ := R2.gr gr
    have bs3 := bs2.gr gr
    have ww : L2.wipe (L2.wipe σ vs) vs = L2.wipe σ vs := Ag.wipe ⟨wipe_length _ _, fun j hj => wipe_out' hj⟩
    cases qb : b xs[i] ρ3 with
    | none => simp only [qb] at e3; cases e3
    | some ρ4 =>
      simp only [qb] at e3
      refine hg _ F3 H' (L2.wipe σ vs) ρ3 v _ ρ4 _ R3.rebase d qb fun F4 H4 σ4 s4 R4 ag => ⟨ag.wipe.trans ww, ?_⟩
      cases qt : t ρ4 with
      | none => simp only [qt] at e3; cases e3
      | some p =>
        obtain ⟨c, ρ5⟩ := p
        refine ht _ _ _ ⟨_, F4, ρ4, R4, c, ρ5, qt, fun F5 H5 s5 R5 => ?_⟩
        have pn : ∀ {σ' : L2.St} {ρ6 : En} {F6 H6 : Hp}, Rel K B σ' ρ6 F6 H6 → (∀ p ∈ B.pins, p.1 ∉ vs) := fun _ => hps
        cases c with
        | false =>
          simp only [qt] at e3
          have R5b := R3.back R5
          have R5w := R5b.wiped vs hps
          rw [ag.wipe, ww] at R5w
          have hp6 : ∀ p ∈ (bsOf (L2.wipe σ vs) ρ3 F3 H').pins, p.1 ∉ vs := fun p hq z => by
            obtain ⟨⟨ws, q1⟩, q2⟩ := mem_pinsOf.mp (show (p.1, p.2) ∈ pinsOf _ _ from hq)
            rw [wipe_get] at q2
            split at q2
            · cases q2
            · rename_i n
              refine n ⟨z, ?_⟩
              by_cases hl : p.1 < σ.length
              · exact hl
              · rw [List.getElem?_eq_none (by omega)] at q2; cases q2
          have R5v := R5.wiped vs hp6
          rw [ag.wipe, ww] at R5v
          exact iteF ⟨F5, _, acc, us, zs2, s2.trans (s3.trans (s4.trans s5)), R5w, bs3.after R5v, DpmA (s3.trans (s4.trans s5)) da, e3, ez⟩
        | true =>
          simp only [qt] at e3
          cases q1 : src1 ρ5 with
          | none => simp only [q1] at e3; cases e3
          | some p =>
            obtain ⟨xs1, ρ6⟩ := p
            simp only [q1] at e3
            cases qm : anyM ρ6 vs1 with
            | true => simp only [qm] at e3; cases e3
            | false =>
              simp only [qm] at e3
              have hm1 := anyM_false qm
              cases ql : lcL vs1 b1 t1 el xs1 (wipeE vs1 ρ6) with
              | none => simp only [ql] at e3; cases e3
              | some p =>
                obtain ⟨ys1, ρ7⟩ := p
                simp only [ql] at e3
                cases qr : lc2L vs vs1 b t src1 b1 t1 el (xs.drop (i + 1)) (wipeE vs ρ7) with
                | none => simp only [qr] at e3; cases e3
                | some p =>
                  obtain ⟨zs3, ρ8⟩ := p
                  simp only [qr] at e3
                  cases e3
                  refine iteT ⟨_, F5, ρ5, R5, xs1, ρ6, q1, fun F6 H6 J1 s6 R6 wk1 => ?_⟩
                  have R6b := R3.back R6
                  have hp1 : ∀ p ∈ B.pins, p.1 ∉ vs1 := fun p hq z => hps p hq (hv _ z)
                  have st := s3.trans (s4.trans (s5.trans s6))
                  have bs6 : Bes σ4 ρ6 F6 H6 D us := bs3.after R6
                  have bs6w : Bes (L2.wipe σ4 vs1) (wipeE vs1 ρ6) F6 H6 D us := by
                    refine ⟨bs6.1, bs6.2.1, fun j ws q q' => ?_⟩
                    obtain ⟨z1, z2⟩ := wipeE_some q
                    rw [wipe_out' z1] at q'
                    exact bs6.2.2 j ws z2 q'
                  refine lc_go (σ := σ4) (J := J1) hg1 ht1 (turns_lcL vs1 b1 t1 el) (fun ρ F H R s _ => wk1 F H s R.sub) (R6b.wiped vs1 hp1) trivial bs6w (DpmA st da) h0 ?_ ql fun F7 H7 us7 s7 R7 bs7 d7 => ?_
                  · rw [← ez] at hfit
                    simp only [List.length_append] at hfit ⊢
                    omega
                  · have R7w := R7.wiped vs hps
                    have e9 : L2.wipe (L2.wipe σ4 vs1) vs = L2.wipe σ vs := by
                      refine Eq.trans (Ag.wipe ⟨wipe_length _ _, fun j hj => wipe_out' fun z => hj (hv j z)⟩) (ag.wipe.trans ww)
                    rw [e9] at R7w
                    refine ⟨F7, _, acc ++ ys1, us7, zs3, s2.trans (st.trans s7), R7w, ⟨bs7.1, bs7.2.1, fun j ws q q' => ?_⟩, d7, qr, by rw [← ez]; simp⟩
                    obtain ⟨z1, z2⟩ := wipeE_some q
                    have z3 : j ∉ vs1 := fun z => z1 (hv j z)
                    rw [wipe_out' z1] at q'
                    refine bs7.2.2 j ws z2 ?_
                    rw [wipe_out' z3]
                    have := ag.2 j z1
                    rw [wipe_out' z1] at this
                    rw [this]
                    exact q'
  · have ei : i = xs.length := by omega
    subst ei
    rw [List.drop_length] at e3
    cases e3
    rw [List.append_nil] at ez
    subst ez
    exact .inl ⟨w2, lc_end s1 R1 hm nD k s2 R2 bs2 da⟩
/-! over a list of a slot that stands still -/
end
open Classical in
noncomputable def lcP (vs : List Nat) (b : Bd) (t : ES Bool) (el : ES D) (ρ0 : En) : List D → ES (List D)
  | [] => ep []
  | x :: r => fun ρ => match b x ρ with
    | none => none
    | some ρ1 => match t ρ1 with
      | none => none
      | some (false, ρ2) => if wipeE vs ρ2 = ρ0 then lcP vs b t el ρ0 r ρ0 else none
      | some (true, ρ2) => match el ρ2 with
        | none => none
        | some (y, ρ3) => if wipeE vs ρ3 = ρ0 then (match lcP vs b t el ρ0 r ρ0 with
          | none => none
          | some (ys, ρ4) => some (y :: ys, ρ4)) else none
theorem turns_lcP (vs : List Nat) (b : Bd) (t : ES Bool) (el : ES D) (ρ0 : En) : Turns vs b t el (fun ρ => ρ = ρ0) (lcP vs b t el ρ0) := by
  refine ⟨fun ρ z h => by cases h; rfl, fun x r ρ zs ρe h => ?_⟩
  unfold lcP at h
  cases q1 : b x ρ with
  | none => simp only [q1] at h; cases h
  | some ρ1 =>
    simp only [q1] at h
    cases q2 : t ρ1 with
    | none => simp only [q2] at h; cases h
    | some p =>
      obtain ⟨c, ρ2⟩ := p
      cases c with
      | false =>
        simp only [q2] at h
        split at h
        · rename_i q
          exact ⟨ρ1, _, ρ2, rfl, q2, .inl ⟨rfl, q, by rw [q]; exact h⟩⟩
        · cases h
      | true =>
        simp only [q2] at h
        cases q3 : el ρ2 with
        | none => simp only [q3] at h; cases h
        | some p =>
          obtain ⟨y, ρ3⟩ := p
          simp only [q3] at h
          split at h
          · rename_i q
            cases q4 : lcP vs b t el ρ0 r ρ0 with
            | none => simp only [q4] at h; cases h
            | some p =>
              obtain ⟨zs', ρ4⟩ := p
              simp only [q4] at h
              cases h
              exact ⟨ρ1, _, ρ2, rfl, q2, .inr ⟨rfl, y, ρ3, zs', q3, q, by rw [q]; exact q4, rfl⟩⟩
          · cases h
/-- [el for .. in the list of slot i if t] -/
noncomputable def eLcM (vs : List Nat) (i : Nat) (b : Bd) (t : ES Bool) (el : ES D) : ES (List D) := fun ρ => match eM i ρ with
  | none => none
  | some (xs, ρ1) => match anyM ρ1 vs with
    | true => none
    | false => match lcP vs b t el (wipeE vs ρ1) xs (wipeE vs ρ1) with
      | none => none
      | some (ys, ρ2) => match fits ys.length with
        | true => some (ys, restE vs ρ1 ρ2)
        | false => none
section
variable {K : PySem.W.Frag} {X : Cx}
theorem w_lcM {vs : List Nat} {i : Nat} {b : Bd} {t : ES Bool} {el : ES D} {g : TG} {tt : TT} (hg : GOk K vs g b) (ht : ∀ σ H Q, tT K t σ H Q → tt σ H Q) {σ : L2.St} {H : Hp} {Q : VK} (h : tN K (eLcM vs i b t el) σ H Q) :
    tLc (iList K (tVar i)) g tt (tE K el) vs σ H Q := by
  obtain ⟨B, F, ρ, R, zs, ρ', e, k⟩ := h
  unfold eLcM at e
  split at e
  · cases e
  rename_i xs ρ1 e1
  obtain ⟨qm, rfl⟩ := eM_some e1
  split at e
  · cases e
  rename_i hm
  have hm := anyM_false hm
  split at e
  · cases e
  rename_i ys ρ2 e2
  split at e
  rotate_left
  · cases e
  rename_i hfit
  cases e
  obtain ⟨a, us, hv, h1, h2, h3⟩ := R.mad qm
  refine ⟨_, hv, a, rfl, ⟨us, SqL.of h1⟩, fun D nD => ?_⟩
  have hps : ∀ p ∈ B.pins, p.1 ∉ vs := fun p hq z => let ⟨xs, q⟩ := (R.pin p hq).2; hm _ z xs q
  have hiv : i ∉ vs := fun z => hm i z xs qm
  refine lc_go (σ := σ) (J := Itl K a) (xs := xs) hg ht (turns_lcP vs b t el (wipeE vs ρ1)) (fun ρ F H R' s eρ => ?_) ((R.wiped vs hps).beside nD) rfl (bes_start R nD) .nil (R.free0 nD) (fits_ok hfit) e2 fun F2 H2 us s2 R2 bs2 da => lc_end (Same.refl _) R hm nD k s2 R2 bs2 da
  subst eρ
  have q2 : (wipeE vs ρ1)[i]? = some (some (W.m xs)) := by rw [wipeE_get, if_neg (fun z => hiv z.1)]; exact qm
  obtain ⟨a', us', hv', h1', h2', h3'⟩ := R'.mad q2
  rw [wipe_out' hiv, hv] at hv'
  cases hv'
  refine ⟨fun j x hx => ?_, us', SqL.of h1', by rw [DpAll.len h3']; exact Nat.le_refl _⟩
  obtain ⟨v, e3, d3⟩ := DpAll.get h3' hx
  refine ⟨⟨us', v, SqL.of h1', e3⟩, fun v' H' y => ?_⟩
  obtain ⟨rfl, y⟩ := y
  have q3 := y us' (SqL.of h1')
  rw [e3] at q3
  cases q3
  exact ⟨F, .refl, d3⟩
end
end CS
set_option Elab.async false
set_option linter.all false
set_option maxRecDepth 100000
set_option maxHeartbeats 4000000
set_option autoImplicit false
namespace CS
open PySem PySem.Spec PyProof.Rows L2
/-! ### arguments -/
def eAn : ES (List D) := ep []
def eAc (f : ES D) (g : ES (List D)) : ES (List D) := eb f fun x => eb g fun xs => ep (x :: xs)
section
variable {K : PySem.W.Frag} {X : Cx}
theorem anil : PA X [] (tAs X.K eAn) := PAw pa_nil fun σ H Q h => by
  obtain ⟨B, F, ρ, R, xs, ρ', e, k⟩ := h
  cases e
  exact k F H [] (Same.refl _) R .nil
theorem acons {e : Expr} {es : List Expr} {f : ES D} {g : ES (List D)} (h : PE X e (tE X.K f)) (hr : PA X es (tAs X.K g)) (hs : starEach (e :: es) X.env = (false, eval e X.env) :: starEach es X.env := by rfl) : PA X (e :: es) (tAs X.K (eAc f g)) := PAw (pa_cons h hr hs) fun σ H Q h => by
  obtain ⟨B, F, ρ, R, zs, ρ', e, k⟩ := h
  obtain ⟨x, ρ1, e1, e2⟩ := eb_some e
  obtain ⟨xs, ρ2, e3, e4⟩ := eb_some e2
  cases e4
  exact ⟨B, F, ρ, R, x, ρ1, e1, fun F1 H1 v s1 R1 d1 => ⟨B, F1, ρ1, R1, xs, _, e3, fun F2 H2 vs s2 R2 d2 => k F2 H2 (v :: vs) (s1.trans s2) R2 (.cons (Dpm s2 d1) d2)⟩⟩
/-! ### comprehensions -/
theorem dlc {elt tg iter : Expr} {ifs : List Expr} {scope : Scope} {own : List (Str × Nat)} {pos : Pos} {src : ES (List D)} {b : Bd} {t : ES Bool} {el : ES D} {g : TG} {tt : TT} (hc : X.calm = true) (hN : X.N.Nodup) (hi : PI X tg iter (tI X.K src)) (ok : BlkOk X.N X.env.scope scope own)
    (hg : ∀ (s : Shared) (H : Hp) (C : Addr) (cl : List (Str × Addr)) (fp : List Addr), PG (X.blk s H scope (compEnvC scope cl C X.env) fp) tg g) (gk : GOk X.K (own.map (·.2)) g b)
    (ht : ∀ (s : Shared) (H : Hp) (C : Addr) (cl : List (Str × Addr)) (fp : List Addr), PTs (X.blk s H scope (compEnvC scope cl C X.env) fp) ifs tt) (hw : ∀ σ H Q, tT X.K t σ H Q → tt σ H Q)
    (he : ∀ (s : Shared) (H : Hp) (C : Addr) (cl : List (Str × Addr)) (fp : List Addr), PE (X.blk s H scope (compEnvC scope cl C X.env) fp) elt (tE X.K el)) (hs : ∀ x, foldedSetIterable iter X.env x = pure x := by intro _; rfl) :
    PE X (.ListComp elt [⟨tg, iter, ifs, 0⟩] scope pos) (tN X.K (eLc (own.map (·.2)) src b t el)) := PEw (pe_lc hc hN hi ok hg ht he hs) fun _ _ _ => w_lc gk hw
theorem w_yes {σ : L2.St} {H : Hp} {Q : Bool → Hp → Prop} (h : tT K (ep true) σ H Q) : tYes σ H Q := by
  obtain ⟨B, F, ρ, R, x, ρ', e, k⟩ := h
  cases e
  exact k F H (Same.refl _) R
/-! ### defs: promises -/
end
section
variable (K : PySem.W.Frag)
/-- data in, data out -/
def spD (g : List D → Option D) : Sp := fun vs H Q _ => ∃ F xs, Same F H ∧ DpAll K F vs xs ∧ ∃ z, g xs = some z ∧ ∀ F' H' v, Same F F' → Same F' H' → Same H H' → (∀ a, F' a ≠ none → F a ≠ none ∨ H a = none) → Dp K F' v z → Q v H'
/-- data in, a new list out -/
def spN (g : List D → Option (List D)) : Sp := fun vs H Q _ => ∃ F xs, Same F H ∧ DpAll K F vs xs ∧ ∃ z, g xs = some z ∧ ∀ F' H' a us, Same F F' → Same F' H' → Same H H' → (∀ a, F' a ≠ none → F a ≠ none ∨ H a = none) →
  H a = none → H' a = some (.lst us) → F' a = none → DpAll K F' us z → Q (.ref a) H'
/-- the first argument a list that is changed -/
def spM (g : List D → List D → Option (D × List D)) : Sp := fun vs H Q _ => ∃ F a ws ys us xs, vs = .ref a :: us ∧ Same F H ∧ H a = some (.lst ws) ∧ F a = none ∧ DpAll K F ws ys ∧ DpAll K F us xs ∧ ∃ z ys', g ys xs = some (z, ys') ∧
  ∀ F' H' v ws', Same F F' → Same F' H' → (∀ b o, b ≠ a → H b = some o → H' b = some o) → (∀ b, F' b ≠ none → F b ≠ none ∨ H b = none) → H' a = some (.lst ws') → F' a = none → DpAll K F' ws' ys' → Dp K F' v z → Q v H'
end
/-- a def of the program that keeps a promise -/
def Has (P : Program) (w : World) (K : PySem.W.Frag) (mg : Str → Option Value) (base : Heap) (x : Str) (n k : Nat) (sp : Sp) : Prop :=
  ∃ f fd ps, ps.length = n ∧ mg x = some (.ref f) ∧ PySem.W.keepIn K (.ref f) = true ∧ Binds K fd ps [] ∧ FnOk P w K mg base CX0 k f fd ps sp
theorem Has.imp {P : Program} {w : World} {K : PySem.W.Frag} {mg : Str → Option Value} {base : Heap} {x : Str} {n k : Nat} {sp sp' : Sp} (h : Has P w K mg base x n k sp) (i : ∀ vs H Q E, sp' vs H Q E → sp vs H Q E) : Has P w K mg base x n k sp' := by
  obtain ⟨f, fd, ps, h1, h2, h3, h4, h5⟩ := h
  exact ⟨f, fd, ps, h1, h2, h3, h4, h5.imp i⟩
theorem Has.lift {P : Program} {w : World} {K : PySem.W.Frag} {mg : Str → Option Value} {base : Heap} {x : Str} {n j k : Nat} {sp : Sp} (h : Has P w K mg base x n j sp) (i : j ≤ k) : Has P w K mg base x n k sp := by
  obtain ⟨f, fd, ps, h1, h2, h3, h4, h5⟩ := h
  exact ⟨f, fd, ps, h1, h2, h3, h4, h5.mono i⟩
/-- what is less said -/
theorem Has.subD {P : Program} {w : World} {K : PySem.W.Frag} {mg : Str → Option Value} {base : Heap} {x : Str} {n k : Nat} {g g' : List D → Option D} (h : Has P w K mg base x n k (spD K g)) (i : ∀ xs z, g' xs = some z → g xs = some z) : Has P w K mg base x n k (spD K g') :=
  h.imp fun vs H Q E ⟨F, xs, h1, h2, z, h3, h4⟩ => ⟨F, xs, h1, h2, z, i xs z h3, h4⟩
theorem Has.subN {P : Program} {w : World} {K : PySem.W.Frag} {mg : Str → Option Value} {base : Heap} {x : Str} {n k : Nat} {g g' : List D → Option (List D)} (h : Has P w K mg base x n k (spN K g)) (i : ∀ xs z, g' xs = some z → g xs = some z) : Has P w K mg base x n k (spN K g') :=
  h.imp fun vs H Q E ⟨F, xs, h1, h2, z, h3, h4⟩ => ⟨F, xs, h1, h2, z, i xs z h3, h4⟩
theorem Has.subM {P : Program} {w : World} {K : PySem.W.Frag} {mg : Str → Option Value} {base : Heap} {x : Str} {n k : Nat} {g g' : List D → List D → Option (D × List D)} (h : Has P w K mg base x n k (spM K g)) (i : ∀ ys xs z, g' ys xs = some z → g ys xs = some z) : Has P w K mg base x n k (spM K g') :=
  h.imp fun vs H Q E ⟨F, a, ws, ys, us, xs, h1, h2, h3, h4, h5, h6, z, ys', h7, h8⟩ => ⟨F, a, ws, ys, us, xs, h1, h2, h3, h4, h5, h6, z, ys', i ys xs _ h7, h8⟩
/-! ### calls of defs -/
section
variable {K : PySem.W.Frag} {X : Cx}
theorem Rel.call {B : Bs} {σ : L2.St} {ρ : En} {F H F' H' : Hp} (R : Rel K B σ ρ F H) (s1 : Same F F') (s2 : Same F' H') (s3 : Same H H') (nw : ∀ a, F' a ≠ none → F a ≠ none ∨ H a = none) : Rel K B σ ρ F' H' := by
  refine ⟨s2, R.f0.trans s1, fun a q => ?_, fun a o e hx => s3 _ _ (R.kept a o e hx), fun i w e => ?_, R.own, R.sep, R.pin, R.len⟩
  · rcases nw a q with z | z
    · exact R.new a z
    · exact .inr (R.free0 z)
  · obtain ⟨v, q1, q2⟩ := R.slot i w e
    refine ⟨v, q1, ?_⟩
    cases w with
    | d x => exact Dpm s1 q2
    | m xs =>
      obtain ⟨a, vs, rfl, q3, q4, q5⟩ := q2
      refine ⟨a, vs, rfl, s3 _ _ q3, none_of_not fun z => ?_, DpmA s1 q5⟩
      rcases nw a z with y | y
      · exact y q4
      · rw [q3] at y; cases y
theorem w_call {g : List D → Option D} {f : ES (List D)} {σ : L2.St} {H : Hp} {Q : VK} (h : tE K (eAs g f) σ H Q) : tCall (spD K g) [] E0 (tAs K f) σ H Q := by
  obtain ⟨B, F, ρ, R, z, ρ', e, k⟩ := h
  obtain ⟨xs, ρ1, e1, e2⟩ := eb_some e
  obtain ⟨z', e3, e4⟩ := eo_some e2
  cases e4
  refine ⟨B, F, ρ, R, xs, _, e1, fun F1 H1 vs s1 R1 d1 => ?_⟩
  show spD K g (vs ++ []) H1 Q E0
  rw [List.append_nil]
  exact ⟨F1, xs, R1.sub, d1, z, e3, fun F2 H2 v s2 t2 t3 nw d2 => k F2 H2 v (s1.trans s2) (R1.call s2 t2 t3 nw) d2⟩
theorem w_callN {g : List D → Option (List D)} {f : ES (List D)} {σ : L2.St} {H : Hp} {Q : VK} (h : tN K (eAs g f) σ H Q) : tCall (spN K g) [] E0 (tAs K f) σ H Q := by
  obtain ⟨B, F, ρ, R, z, ρ', e, k⟩ := h
  obtain ⟨xs, ρ1, e1, e2⟩ := eb_some e
  obtain ⟨z', e3, e4⟩ := eo_some e2
  cases e4
  refine ⟨B, F, ρ, R, xs, _, e1, fun F1 H1 vs s1 R1 d1 => ?_⟩
  show spN K g (vs ++ []) H1 Q E0
  rw [List.append_nil]
  refine ⟨F1, xs, R1.sub, d1, z, e3, fun F2 H2 a us s2 t2 t3 nw h0 h1 h2 d2 => k F2 H2 a us (s1.trans s2) (R1.call s2 t2 t3 nw) h1 h2 d2 (R1.free0 h0) fun j ys q q' => ?_⟩
  obtain ⟨b, _, q3, q4, _⟩ := R1.mad q
  rw [q'] at q3; cases q3
  rw [h0] at q4; cases q4
/-- a call that changes the list of slot i -/
def eCM (g : List D → List D → Option (D × List D)) (i : Nat) (f : ES (List D)) : ES D := eb (eM i) fun _ => eb f fun xs => eb (eM i) fun ys => fun ρ => match g ys xs with
  | some (z, ys') => some (z, ρ.set i (some (.m ys')))
  | none => none
theorem w_callM {g : List D → List D → Option (D × List D)} {i : Nat} {f : ES (List D)} {σ : L2.St} {H : Hp} {Q : VK} (h : tE K (eCM g i f) σ H Q) : tCall (spM K g) [] E0 (tCons (tVar i) (tAs K f)) σ H Q := by
  obtain ⟨B, F, ρ, R, z, ρ', e, k⟩ := h
  obtain ⟨y0, ρ0, q0, e3⟩ := eb_some e
  obtain ⟨q1, rfl⟩ := eM_some q0
  obtain ⟨xs, ρ2, e4, e5⟩ := eb_some e3
  obtain ⟨ys, ρ3, q2, e6⟩ := eb_some e5
  obtain ⟨qm, rfl⟩ := eM_some q2
  obtain ⟨a, _, hv, _⟩ := R.mad q1
  refine ⟨_, hv, B, F, _, R, xs, _, e4, fun F1 H1 vs s1 R1 d1 => ?_⟩
  obtain ⟨a', ws, h1, h2, h3, h4⟩ := R1.mad qm
  rw [hv] at h1; cases h1
  show spM K g (V.ref a :: vs ++ []) H1 Q E0
  rw [List.append_nil]
  cases eg : g ys xs with
  | none => simp only [eg] at e6; cases e6
  | some p =>
    obtain ⟨z', ys'⟩ := p
    simp only [eg] at e6
    cases e6
    refine ⟨F1, a, ws, ys, vs, xs, rfl, R1.sub, h2, h3, h4, d1, _, ys', eg, fun F2 H2 v ws' s2 t2 t3 nw h5 h6 d2 d3 => k F2 H2 v (s1.trans s2) ?_ d3⟩
    have hl : i < ρ3.length := by
      by_cases hl : i < ρ3.length
      · exact hl
      · rw [List.getElem?_eq_none (by omega)] at qm; cases qm
    have old : ∀ {j : Nat} {us : List D}, (ρ3.set i (some (.m ys')))[j]? = some (some (W.m us)) → ∃ zs, ρ3[j]? = some (some (W.m zs)) := fun {j us} q => by
      by_cases hj : i = j
      · subst hj; exact ⟨_, qm⟩
      · rw [List.getElem?_set_ne hj] at q; exact ⟨_, q⟩
    refine ⟨t2, R1.f0.trans s2, fun b q => ?_, fun b o q hx => ?_, fun j w q => ?_, fun j us b q3 q4 => ?_, fun j l us zs b q3 q4 q5 q6 => ?_, fun p hp => ?_, by simp [R1.len]⟩
    · rcases nw b q with y | y
      · exact R1.new b y
      · exact .inr (R1.free0 y)
    · have nb : b ≠ a := fun y => by
        subst y
        rcases R1.own i ys b qm hv with y | y
        · rw [y] at q; cases q
        · exact hx _ y rfl
      exact t3 b o nb (R1.kept b o q hx)
    · by_cases hj : i = j
      · subst hj
        rw [List.getElem?_set_self hl] at q; cases q
        exact ⟨_, hv, a, ws', rfl, h5, h6, d2⟩
      · rw [List.getElem?_set_ne hj] at q
        obtain ⟨v', q3, q4⟩ := R1.slot j w q
        refine ⟨v', q3, ?_⟩
        cases w with
        | d x => exact Dpm s2 q4
        | m us =>
          obtain ⟨b, vs', rfl, q5, q6, q7⟩ := q4
          have nb : b ≠ a := fun y => by subst y; exact hj (R1.sep i j _ _ b qm q hv q3)
          refine ⟨b, vs', rfl, t3 b _ nb q5, none_of_not fun y => ?_, DpmA s2 q7⟩
          rcases nw b y with y | y
          · exact y q6
          · rw [q5] at y; cases y
    · obtain ⟨zs, q5⟩ := old q3
      exact R1.own j zs b q5 q4
    · obtain ⟨us', q7⟩ := old q3
      obtain ⟨zs', q8⟩ := old q4
      exact R1.sep j l us' zs' b q7 q8 q5 q6
    · obtain ⟨q3, us, q4⟩ := R1.pin p hp
      refine ⟨q3, ?_⟩
      by_cases hj : i = p.1
      · exact ⟨ys', by rw [← hj, List.getElem?_set_self hl]⟩
      · exact ⟨us, by rw [List.getElem?_set_ne hj]; exact q4⟩
section
variable {x : Str} {n k j : Nat} {p pos : Pos} {e : Expr} {es : List Expr}
theorem dcall {g : List D → Option D} {f : ES (List D)} (F : Has X.prog X.w X.K X.mg X.base x n k (spD X.K g)) (hr : Room j X.A) (hg : Gl X x) (ha : PA X (e :: es) (tAs X.K f)) (hk : k ≤ j := by decide) (hdb : (x == ("__debug__" : Str)) = false := by decide) (he : starEach (e :: es) X.env = (false, eval e X.env) :: starEach es X.env := by rfl)
    (hpl : (backTo pos (starEach es X.env)).any (·.1) = false := by rfl) : PE X (.Call (.Name x p) (e :: es) [] pos) (tE X.K (eAs g f)) := by
  obtain ⟨f, fd, ps, h1, h2, h3, h4, h5⟩ := F
  exact PEw (pe_call h5 (hr.mono hk) hg h2 h3 h4 .nil pass0 ha hdb he hpl) fun _ _ _ => w_call
theorem dcallN {g : List D → Option (List D)} {f : ES (List D)} (F : Has X.prog X.w X.K X.mg X.base x n k (spN X.K g)) (hr : Room j X.A) (hg : Gl X x) (ha : PA X (e :: es) (tAs X.K f)) (hk : k ≤ j := by decide) (hdb : (x == ("__debug__" : Str)) = false := by decide) (he : starEach (e :: es) X.env = (false, eval e X.env) :: starEach es X.env := by rfl)
    (hpl : (backTo pos (starEach es X.env)).any (·.1) = false := by rfl) : PE X (.Call (.Name x p) (e :: es) [] pos) (tN X.K (eAs g f)) := by
  obtain ⟨f, fd, ps, h1, h2, h3, h4, h5⟩ := F
  exact PEw (pe_call h5 (hr.mono hk) hg h2 h3 h4 .nil pass0 ha hdb he hpl) fun _ _ _ => w_callN
theorem dcallM {g : List D → List D → Option (D × List D)} {i : Nat} {f : ES (List D)} (F : Has X.prog X.w X.K X.mg X.base x n k (spM X.K g)) (hr : Room j X.A) (hg : Gl X x) (hv : PE X e (tVar i)) (ha : PA X es (tAs X.K f)) (hk : k ≤ j := by decide) (hdb : (x == ("__debug__" : Str)) = false := by decide) (he : starEach (e :: es) X.env = (false, eval e X.env) :: starEach es X.env := by rfl)
    (hpl : (backTo pos (starEach es X.env)).any (·.1) = false := by rfl) : PE X (.Call (.Name x p) (e :: es) [] pos) (tE X.K (eCM g i f)) := by
  obtain ⟨f, fd, ps, h1, h2, h3, h4, h5⟩ := F
  exact PEw (pe_call h5 (hr.mono hk) hg h2 h3 h4 .nil pass0 (pa_cons hv ha he) hdb he hpl) fun _ _ _ => w_callM
end
end
/-! ### the body of a def -/
section
variable {P : Program} {w : World} {K : PySem.W.Frag} {mg : Str → Option Value} {base : Heap}
abbrev XO (P : Program) (w : World) (K : PySem.W.Frag) (mg : Str → Option Value) (base : Heap) (N : List Str) (x : Str) (st : Stmt) (f : Addr) (cdv : Value) (A : Around) (outer : List Env) (s : Shared) (H : Hp) : Cx := (cxOf CX0 P w K mg base N x (defScope st) f cdv A outer s H E0).nox
/-- the body's reading, whatever calls it -/
def BodyOk (P : Program) (w : World) (K : PySem.W.Frag) (mg : Str → Option Value) (base : Heap) (N : List Str) (x : Str) (st : Stmt) (k : Nat) (ps : List Nat) (s : SS) : Prop :=
  ∀ (f : Addr) (cdv : Value) (A : Around) (outer : List Env) (sh : Shared) (H : Hp), Room k (A.deeper (envOfC x (defScope st) sh.heap.objs.size f cdv)) → PSs (XO P w K mg base N x st f cdv A outer sh H) (defBody st) (tS K ps s)
def argE (xs : List D) : En := xs.map fun x => some (.d x)
def fnD (na nl : Nat) (s : SS) : List D → Option D := fun xs => match Nat.beq xs.length na with
  | false => none
  | true => match s (argE xs ++ List.replicate nl none) with
    | some (.rt (.d z), _) => some z
    | some (.nx, _) => some .none
    | _ => none
def fnN (na nl : Nat) (s : SS) : List D → Option (List D) := fun xs => match Nat.beq xs.length na with
  | false => none
  | true => match s (argE xs ++ List.replicate nl none) with
    | some (.rt (.m z), _) => some z
    | _ => none
/-- na arguments behind the first -/
def fnM (na nl : Nat) (s : SS) : List D → List D → Option (D × List D) := fun ys xs => match Nat.beq xs.length na with
  | false => none
  | true => match s (some (.m ys) :: (argE xs ++ List.replicate nl none)) with
    | some (.rt (.d z), some (.m ys') :: _) => some (z, ys')
    | some (.nx, some (.m ys') :: _) => some (.none, ys')
    | _ => none
theorem rel_start {F H : Hp} {vs : List V} {xs : List D} (nl : Nat) (s : Same F H) (d : DpAll K F vs xs) : Rel K ⟨F, H, []⟩ (vs.map some ++ List.replicate nl none) (argE xs ++ List.replicate nl none) F H := by
  have hl := DpAll.len d
  have nm : ∀ {i : Nat} {ys : List D}, (argE xs ++ List.replicate nl none)[i]? ≠ some (some (W.m ys)) := fun {i ys} e => by
    by_cases hi : i < xs.length
    · rw [List.getElem?_append_left (by simp [argE, hi])] at e
      simp [argE, List.getElem?_map, List.getElem?_eq_getElem hi] at e
    · rw [List.getElem?_append_right (by simp [argE]; omega)] at e
      rw [List.getElem?_replicate] at e
      split at e <;> cases e
  refine ⟨s, Same.refl _, fun a h => .inl h, fun a o e _ => e, fun i w e => ?_, fun i ys a e _ => absurd e nm, fun i j ys zs a e _ _ _ => absurd e nm, fun p hp => by simp at hp, by simp [argE, hl]⟩
  by_cases hi : i < xs.length
  · have hx : xs[i]? = some xs[i] := List.getElem?_eq_getElem hi
    rw [List.getElem?_append_left (by simp [argE, hi])] at e
    simp [argE, List.getElem?_map, hx] at e
    subst e
    obtain ⟨v, h1, h2⟩ := DpAll.get d hx
    refine ⟨v, ?_, h2⟩
    rw [List.getElem?_append_left (by simp; omega)]
    simp [List.getElem?_map, h1]
  · rw [List.getElem?_append_right (by simp [argE]; omega), List.getElem?_replicate] at e
    split at e <;> cases e
theorem start_eq {N : List Str} {vs : List V} {nl : Nat} (h : N.length = vs.length + nl) : L2.start N vs = vs.map some ++ List.replicate nl none := by
  unfold L2.start
  rw [h, Nat.add_sub_cancel_left]
section
variable {x : Str} {st : Stmt} {N : List Str} {k : Nat} {s : SS} {qs : List Str} {f : Addr} {fd : FuncData}
theorem okD (na nl : Nat) (F : FunD K x x (defArgs st) (defBody st) (defScope st) [] [] f fd) (S : FnScope N qs (defScope st)) (hq : qs.length = na) (hN : N.length = na + nl) (b : BodyOk P w K mg base N x st k [] s) :
    FnOk P w K mg base CX0 (k + 1) f fd qs (spD K (fnD na nl s)) := by
  refine F.ok S (fun vs H Q E h => ?_) fun cdv A outer sh H vs Q E hr h => ⟨_, PSs.nox (b f cdv A outer sh H hr), ?_⟩
  · obtain ⟨F, xs, h1, h2, z, h3, _⟩ := h
    unfold fnD at h3
    split at h3
    · cases h3
    · rename_i e
      rw [DpAll.len h2, Nat.eq_of_beq_eq_true e, hq]
  · obtain ⟨F, xs, h1, h2, z, h3, k⟩ := h
    unfold fnD at h3
    split at h3
    · cases h3
    · rename_i e
      have e := Nat.eq_of_beq_eq_true e
      have hl := DpAll.len h2
      rw [start_eq (nl := nl) (by omega)]
      split at h3
      · rename_i z' ρ' e2
        cases h3
        exact ⟨_, F, _, rel_start nl h1 h2, fun p hp => by simp at hp, _, ρ', e2, fun F' H' σ v s1 R1 r => k F' H' v s1 R1.sub (fun a o q => R1.kept a o q (fun p hp => by simp at hp)) R1.new r⟩
      · rename_i ρ' e2
        cases h3
        exact ⟨_, F, _, rel_start nl h1 h2, fun p hp => by simp at hp, _, ρ', e2, fun F' H' σ s1 R1 => k F' H' .non s1 R1.sub (fun a o q => R1.kept a o q (fun p hp => by simp at hp)) R1.new .non⟩
      · cases h3
theorem hasD (na nl : Nat) (F : FunD K x x (defArgs st) (defBody st) (defScope st) [] [] f fd) (S : FnScope N qs (defScope st)) (gm : mg x = some (.ref f)) (hb : Binds K fd qs []) (hq : qs.length = na) (hN : N.length = na + nl) (b : BodyOk P w K mg base N x st k [] s) :
    Has P w K mg base x na (k + 1) (spD K (fnD na nl s)) := ⟨f, fd, qs, hq, gm, F.kp, hb, okD na nl F S hq hN b⟩
theorem hasN (na nl : Nat) (F : FunD K x x (defArgs st) (defBody st) (defScope st) [] [] f fd) (S : FnScope N qs (defScope st)) (gm : mg x = some (.ref f)) (hb : Binds K fd qs []) (hq : qs.length = na) (hN : N.length = na + nl) (b : BodyOk P w K mg base N x st k [] s) :
    Has P w K mg base x na (k + 1) (spN K (fnN na nl s)) := by
  refine ⟨f, fd, qs, hq, gm, F.kp, hb, F.ok S (fun vs H Q E h => ?_) fun cdv A outer sh H vs Q E hr h => ⟨_, PSs.nox (b f cdv A outer sh H hr), ?_⟩⟩
  · obtain ⟨F, xs, h1, h2, z, h3, _⟩ := h
    unfold fnN at h3
    split at h3
    · cases h3
    · rename_i e
      rw [DpAll.len h2, Nat.eq_of_beq_eq_true e, hq]
  · obtain ⟨F, xs, h1, h2, z, h3, k⟩ := h
    unfold fnN at h3
    split at h3
    · cases h3
    · rename_i e
      have e := Nat.eq_of_beq_eq_true e
      have hl := DpAll.len h2
      rw [start_eq (nl := nl) (by omega)]
      split at h3
      · rename_i z' ρ' e2
        cases h3
        refine ⟨_, F, _, rel_start nl h1 h2, fun p hp => by simp at hp, _, ρ', e2, fun F' H' σ v s1 R1 r => ?_⟩
        obtain ⟨a, us, rfl, r1, r2, r3, r4⟩ := r
        exact k F' H' a us s1 R1.sub (fun a o q => R1.kept a o q (fun p hp => by simp at hp)) R1.new r4 r1 r2 r3
      · cases h3
theorem hasM (na nl : Nat) (F : FunD K x x (defArgs st) (defBody st) (defScope st) [] [] f fd) (S : FnScope N qs (defScope st)) (gm : mg x = some (.ref f)) (hb : Binds K fd qs []) (hq : qs.length = na + 1) (hN : N.length = na + 1 + nl) (b : BodyOk P w K mg base N x st k [0] s) :
    Has P w K mg base x (na + 1) (k + 1) (spM K (fnM na nl s)) := by
  refine ⟨f, fd, qs, hq, gm, F.kp, hb, F.ok S (fun vs H Q E h => ?_) fun cdv A outer sh H vs Q E hr h => ⟨_, PSs.nox (b f cdv A outer sh H hr), ?_⟩⟩
  · obtain ⟨F, a, ws, ys, us, xs, rfl, h1, h2, h3, h4, h5, z, ys', h6, _⟩ := h
    unfold fnM at h6
    split at h6
    · cases h6
    · rename_i e
      rw [List.length_cons, DpAll.len h5, Nat.eq_of_beq_eq_true e, hq]
  · obtain ⟨F, a, ws, ys, us, xs, rfl, h1, h2, h3, h4, h5, z, ys', h6, k⟩ := h
    unfold fnM at h6
    split at h6
    · cases h6
    rename_i e
    have e := Nat.eq_of_beq_eq_true e
    have hl := DpAll.len h5
    rw [start_eq (nl := nl) (by rw [List.length_cons]; omega)]
    have R0 := rel_start (K := K) nl h1 h5
    have nm : ∀ {i : Nat} {zs : List D}, (argE xs ++ List.replicate nl none)[i]? ≠ some (some (W.m zs)) := fun {i zs} e => by
      obtain ⟨b, _, q1, q2, q3, _⟩ := R0.mad e
      by_cases hi : i < xs.length
      · rw [List.getElem?_append_left (by simp [argE, hi])] at e
        simp [argE, List.getElem?_map, List.getElem?_eq_getElem hi] at e
      · rw [List.getElem?_append_right (by simp [argE]; omega)] at e
        rw [List.getElem?_replicate] at e
        split at e <;> cases e
    have R : Rel K ⟨F, H, [(0, a)]⟩ ((V.ref a :: us).map some ++ List.replicate nl none) (some (.m ys) :: (argE xs ++ List.replicate nl none)) F H := by
      refine ⟨h1, Same.refl _, fun a h => .inl h, fun a o e _ => e, fun i w e => ?_, fun i zs b e e' => ?_, fun i j zs zs' b e e' _ _ => ?_, fun p hp => ?_, by simp [argE, hl]⟩
      · cases i with
        | zero => cases e; exact ⟨_, rfl, a, ws, rfl, h2, h3, h4⟩
        | succ i => exact R0.slot i w e
      · cases i with
        | zero => cases e'; exact .inr (by simp)
        | succ i => exact absurd e nm
      · cases i with
        | zero => cases j with
          | zero => rfl
          | succ j => exact absurd e' nm
        | succ i => exact absurd e nm
      · simp at hp
        subst hp
        exact ⟨rfl, ys, rfl⟩
    have fin : ∀ {F' H' : Hp} {σ : L2.St} {ρr : En} {ys' : List D}, Rel K ⟨F, H, [(0, a)]⟩ σ (some (.m ys') :: ρr) F' H' → ∃ ws', (∀ b o, b ≠ a → H b = some o → H' b = some o) ∧ H' a = some (.lst ws') ∧ F' a = none ∧ DpAll K F' ws' ys' := fun {F' H' σ ρr ys'} R1 => by
      obtain ⟨q1, _⟩ := R1.pin (0, a) (by simp)
      obtain ⟨b, ws', q2, q3, q4, q5⟩ := R1.mad (i := 0) (xs := ys') rfl
      rw [show σ[0]? = some (some (V.ref a)) from q1] at q2
      cases q2
      exact ⟨ws', fun b o nb e => R1.kept b o e fun p hp => by simp at hp; subst hp; exact fun z => nb z.symm, q3, q4, q5⟩
    split at h6
    · rename_i z' ys'' ρ' e2
      cases h6
      refine ⟨_, F, _, R, fun p hp => by simp at hp; subst hp; simp, _, _, e2, fun F' H' σ v s1 R1 r => ?_⟩
      obtain ⟨ws', t1, t2, t3, t4⟩ := fin R1
      exact k F' H' v ws' s1 R1.sub t1 R1.new t2 t3 t4 r
    · rename_i ys'' ρ' e2
      cases h6
      refine ⟨_, F, _, R, fun p hp => by simp at hp; subst hp; simp, _, _, e2, fun F' H' σ s1 R1 => ?_⟩
      obtain ⟨ws', t1, t2, t3, t4⟩ := fin R1
      exact k F' H' .non ws' s1 R1.sub t1 R1.new t2 t3 t4 .non
    · cases h6
end
end
end CS
set_option Elab.async false
set_option linter.all false
set_option maxRecDepth 100000
set_option maxHeartbeats 4000000
set_option autoImplicit false
namespace CS
open PySem PySem.Spec PyProof.Rows L2
/-! ### arithmetic -/
def orR (r r' : R2) : R2 := fun x y H Q => r x y H Q ∨ r' x y H Q
theorem OpR.orR {X : Cx} {f : Value → Value → Sem Value} {r r' : R2} (h : OpR X f r) (h' : OpR X f r') : OpR X f (CS.orR r r') := fun pins s σ H x y v u Q I rx ry q =>
  q.elim (fun z => h pins s σ H x y v u Q I rx ry z) fun z => h' pins s σ H x y v u Q I rx ry z
abbrev lg (i : Int) : Nat := i.natAbs.log2
def catScr (K : PySem.W.Frag) : R2 := fun x y H Q => ∃ l b xs zs, x = .ref l ∧ y = .ref b ∧ SqL K H l xs ∧ H b = some (.lst zs) ∧ xs.length + zs.length ≤ sizeLine ∧ ∀ p, H p = none → Q (.ref p) (upd H p (.lst (xs ++ zs)))
theorem op_catScr {X : Cx} : OpR X (binaryOp .Add) (catScr X.K) := fun pins s σ H x y v u Q I rx ry h => by
  obtain ⟨l, b, xs, zs, rfl, rfl, hl, hb, hz, q⟩ := h
  cases rx
  cases ry
  obtain ⟨its, r, ⟨⟨cls, dd, data, sl⟩, n, e, hc, hd0, hd⟩, hn0⟩ := I.list hl
  simp only at hc hd hd0
  subst hc hd hd0
  obtain ⟨_, its2, n2, r2, hn2, e2⟩ := I.lstM hb
  have hn := r.length
  refine PySem.concat_meets ⟨_, e, rfl⟩ ⟨_, e2, rfl⟩ PySem.noFill_list_add PySem.seq_list_add PySem.F.slot_list_add PySem.F.entry_list_add (PySem.F.args_list_add_2 _ _) (list_addW l b its.toArray its2.toArray n n2 none none sl _ (by simp only [List.size_toArray]; omega)) ⟨e, e2, ?_⟩
  rw [show its.toArray ++ its2.toArray = (its ++ its2).toArray from by simp]
  exact ⟨.ref _, _, I.lnew (t' := s.toks) (r.append r2) (by simp only [List.length_append]; omega), rfl, q _ I.fresh⟩
def gAdd : D → D → Option D
  | .int i, .int j => some (.int (i + j))
  | .list xs, .list ys => match fits (xs.length + ys.length) with
    | true => some (.list (xs ++ ys))
    | false => none
  | .tuple xs, .tuple ys => match fits (xs.length + ys.length) with
    | true => some (.tuple (xs ++ ys))
    | false => none
  | .str a, .str b => match fits (a.length + b.length) with
    | true => some (.str (a ++ b))
    | false => none
  | .dict [(.none, .list xs)], .list ys => match fits (xs.length + ys.length) with
    | true => some (.list (xs ++ ys))
    | false => none
  | _, _ => none
abbrev rAdd (K : PySem.W.Frag) : R2 := orR (rI0 fun i j => .int (i + j)) (orR rCat (orR (rCatA K) (orR (fun x y H Q => ∃ a b, x = .str a ∧ y = .str b ∧ a.length + b.length ≤ sizeLine ∧ Q (.str (a ++ b)) H) (catScr K))))
theorem op_addX {X : Cx} : OpR X (binaryOp .Add) (rAdd X.K) := OpR.orR op_add (OpR.orR op_cat (OpR.orR op_catA (OpR.orR (fun pins s σ H x y v u Q I rx ry h => by
  obtain ⟨a, b, e1, e2, h1, h2⟩ := h
  exact op_add_str pins s σ H x y v u Q I rx ry ⟨a, b, e1, e2, h1, h2⟩) op_catScr)))
section
variable {K : PySem.W.Frag}
theorem Bp.ref {F H : Hp} {v : V} {kvs : List (D × D)} (b : Bp K F H v (.dict kvs)) : Dp K F v (.dict kvs) := by
  rcases b with b | ⟨a, vs, ys, rfl, e, h1, h2⟩
  · exact b
  · cases e
theorem o_add : Op2 K (rAdd K) gAdd := fun F H v u x y z Q s b1 b2 e k => by
  unfold gAdd at e
  split at e
  · cases e
    obtain rfl := b1.int
    obtain rfl := b2.int
    exact .inl ⟨_, _, rfl, rfl, k F H _ .refl (.int _)⟩
  · split at e
    · rename_i hf
      cases e
      obtain ⟨a, vs, rfl, h1, d1⟩ := b1.list s
      obtain ⟨b, us, rfl, h2, d2⟩ := b2.list s
      refine .inr (.inl ⟨a, b, vs, us, rfl, rfl, h1, h2, by rw [DpAll.len d1, DpAll.len d2]; exact fits_ok hf, fun p hp => ?_⟩)
      have sF : Same F (upd F p (.lst (vs ++ us))) := same_new (s.free hp)
      exact k _ _ _ (.one hp) (.lst upd_same (DpAll.app (DpmA sF d1) (DpmA sF d2)))
    · cases e
  · rename_i xs ys
    split at e
    · rename_i hf
      cases e
      obtain ⟨a, vs, rfl, h1, d1⟩ := b1.tuple s
      obtain ⟨b, us, rfl, h2, d2⟩ := b2.tuple s
      have l1 := DpAll.len d1
      have l2 := DpAll.len d2
      refine .inr (.inr (.inl ⟨a, b, vs, us, rfl, rfl, h1, h2, by rw [l1, l2]; exact fits_ok hf, fun q => ?_, fun q q2 => ?_, fun _ _ p hp => ?_⟩))
      · subst q
        have : xs = [] := List.length_eq_zero_iff.mp l1.symm
        subst this
        rcases b2 with b2 | ⟨_, _, _, _, q, _⟩
        · exact k F H _ .refl b2
        · cases q
      · subst q2
        have : ys = [] := List.length_eq_zero_iff.mp l2.symm
        subst this
        rw [List.append_nil] at k
        rcases b1 with b1 | ⟨_, _, _, _, q, _⟩
        · exact k F H _ .refl b1
        · cases q
      · have sF : Same F (upd F p (.tup (vs ++ us))) := same_new (s.free hp)
        exact k _ _ _ (.one hp) (.tup (SqT.of upd_same) (DpAll.app (DpmA sF d1) (DpmA sF d2)))
    · cases e
  · split at e
    · rename_i hf
      cases e
      obtain rfl := b1.str
      obtain rfl := b2.str
      exact .inr (.inr (.inr (.inl ⟨_, _, rfl, rfl, fits_ok hf, k F H _ .refl (.str _)⟩)))
    · cases e
  · rename_i xs ys
    split at e
    · rename_i hf
      cases e
      have d1 := b1.ref
      obtain ⟨b, us, rfl, h2, d2⟩ := b2.list s
      cases d1 with
      | @scr a ns h1 =>
        refine .inr (.inr (.inr (.inr ⟨a, b, _, us, rfl, rfl, CS.Same.seqL s h1, h2, by rw [DpAll.len d2]; simpa using fits_ok hf, fun p hp => ?_⟩)))
        have sF : Same F (upd F p (.lst (ns.map V.int ++ us))) := same_new (s.free hp)
        exact k _ _ _ (.one hp) (.lst upd_same (DpAll.app (DpAll.ints ns) (DpmA sF d2)))
    · cases e
  · cases e
end
/-- list + list as a new list -/
def gCatN : D → D → Option (List D)
  | .list xs, .list ys => match fits (xs.length + ys.length) with
    | true => some (xs ++ ys)
    | false => none
  | _, _ => none
section
variable {K : PySem.W.Frag} {X : Cx}
theorem o_catN : OpN2 K rCat gCatN := fun F H v u x y z Q s b1 b2 e k => by
  unfold gCatN at e
  split at e
  · split at e
    · rename_i hf
      cases e
      obtain ⟨a, vs, rfl, h1, d1⟩ := b1.list s
      obtain ⟨b, us, rfl, h2, d2⟩ := b2.list s
      exact ⟨a, b, vs, us, rfl, rfl, h1, h2, by rw [DpAll.len d1, DpAll.len d2]; exact fits_ok hf, fun p hp => k p _ hp (DpAll.app d1 d2)⟩
    · cases e
  · cases e
/-- ints to an int -/
def gI (c : Int → Int → Bool) (f : Int → Int → Int) : D → D → Option D
  | .int i, .int j => match c i j with
    | true => some (.int (f i j))
    | false => none
  | _, _ => none
def gB (f : Int → Int → Bool) : D → D → Option D
  | .int i, .int j => some (.bool (f i j))
  | _, _ => none
theorem o_I {C : Int → Int → Prop} {c : Int → Int → Bool} {f : Int → Int → Int} (hc : ∀ i j, c i j = true → C i j) : Op2 K (rI C fun i j => .int (f i j)) (gI c f) := fun F H v u x y z Q s b1 b2 e k => by
  unfold gI at e
  split at e
  · split at e
    · rename_i hq
      cases e
      exact ⟨_, _, b1.int, b2.int, hc _ _ hq, k F H _ .refl (.int _)⟩
    · cases e
  · cases e
theorem o_B {f : Int → Int → Bool} : Op2 K (rI0 fun i j => .bl (f i j)) (gB f) := fun F H v u x y z Q s b1 b2 e k => by
  unfold gB at e
  split at e
  · cases e
    exact ⟨_, _, b1.int, b2.int, k F H _ .refl (.bl _)⟩
  · cases e
def gSub : D → D → Option D := gI (fun _ _ => true) fun i j => i - j
theorem o_sub : Op2 K (rI (fun _ _ => True) fun i j => .int (i - j)) gSub := o_I fun _ _ _ => trivial
theorem op_subX : OpR X (binaryOp .Sub) (rI (fun _ _ => True) fun i j => .int (i - j)) := fun pins s σ H x y v u Q I rx ry h => by
  obtain ⟨i, j, e1, e2, _, q⟩ := h
  exact op_sub pins s σ H x y v u Q I rx ry ⟨i, j, e1, e2, q⟩
def okMul (i j : Int) : Bool := decide (lg i + lg j < 1000000)
theorem okMul_ok {i j : Int} (h : okMul i j = true) : CMulW i j := by
  have q : lg i + lg j < 1000000 := of_decide_eq_true h
  exact q
def gMulI : D → D → Option D := gI okMul fun i j => i * j
theorem o_mulI : Op2 K (rI CMulW fun i j => .int (i * j)) gMulI := o_I fun _ _ h => okMul_ok h
def okDiv (_ j : Int) : Bool := decide (j ≠ 0) && decide (lg j < 9000)
def gFdiv : D → D → Option D := gI okDiv fun i j => i.fdiv j
theorem o_fdiv : Op2 K (rI (fun _ j => j ≠ 0 ∧ j.natAbs.log2 < 9000) fun i j => .int (i.fdiv j)) gFdiv := o_I fun _ _ h => by
  unfold okDiv at h
  rw [Bool.and_eq_true] at h
  exact ⟨of_decide_eq_true h.1, of_decide_eq_true h.2⟩
theorem op_fdivX : OpR X (binaryOp .FloorDiv) (rI (fun _ j => j ≠ 0 ∧ j.natAbs.log2 < 9000) fun i j => .int (i.fdiv j)) := opI fun _ _ _ _ _ _ _ hc q => floordiv_int hc.1 q (.inl (PyProof.noPylong_of_log2 hc.2))
def gMod : D → D → Option D := gI (fun _ j => decide (j ≠ 0)) fun i j => i.fmod j
theorem o_mod : Op2 K (rI (fun _ j => j ≠ 0) fun i j => .int (i.fmod j)) gMod := o_I fun _ _ h => of_decide_eq_true h
def okPow (i j : Int) : Bool := decide (0 ≤ j) && decide (((lg i + 1 : Nat) : Int) * j ≤ 134217728)
def gPow : D → D → Option D := gI okPow fun i j => i ^ j.toNat
theorem o_pow : Op2 K (rI (fun i j => 0 ≤ j ∧ ((lg i + 1 : Nat) : Int) * j ≤ 134217728) fun i j => .int (i ^ j.toNat)) gPow := o_I fun _ _ h => by
  unfold okPow at h
  rw [Bool.and_eq_true] at h
  exact ⟨of_decide_eq_true h.1, of_decide_eq_true h.2⟩
theorem op_powX : OpR X (binaryOp .Pow) (rI (fun i j => 0 ≤ j ∧ ((lg i + 1 : Nat) : Int) * j ≤ 134217728) fun i j => .int (i ^ j.toNat)) := opI fun i j _ _ _ _ _ hc q => pow_int hc.1 (by
  have b : Builtin.Int.intBits i ≤ i.natAbs.log2 + 1 := by
    unfold Builtin.Int.intBits
    split <;> omega
  have h2 := hc.2
  have h3 : (Builtin.Int.intBits i : Int) * j ≤ ((lg i + 1 : Nat) : Int) * j := Int.mul_le_mul_of_nonneg_right (by exact_mod_cast b) hc.1
  have h4 : ((2 : Int) ^ 27) = 134217728 := by decide
  rw [h4]
  exact Int.le_trans h3 h2) q
def gOr : D → D → Option D := gI (fun _ _ => true) Builtin.bitOr
def gAnd : D → D → Option D := gI (fun _ _ => true) Builtin.bitAnd
theorem op_orX : OpR X (binaryOp .BitOr) (rI (fun _ _ => True) fun i j => .int (Builtin.bitOr i j)) := fun pins s σ H x y v u Q I rx ry ⟨i, j, e1, e2, _, q⟩ => op_or pins s σ H x y v u Q I rx ry ⟨i, j, e1, e2, q⟩
theorem op_andX : OpR X (binaryOp .BitAnd) (rI (fun _ _ => True) fun i j => .int (Builtin.bitAnd i j)) := fun pins s σ H x y v u Q I rx ry ⟨i, j, e1, e2, _, q⟩ => op_and pins s σ H x y v u Q I rx ry ⟨i, j, e1, e2, q⟩
theorem o_or : Op2 K (rI (fun _ _ => True) fun i j => .int (Builtin.bitOr i j)) gOr := o_I fun _ _ _ => trivial
theorem o_and : Op2 K (rI (fun _ _ => True) fun i j => .int (Builtin.bitAnd i j)) gAnd := o_I fun _ _ _ => trivial
def okShl (i j : Int) : Bool := decide (0 ≤ j) && (decide (j ≤ 1000000) && decide (i.natAbs < 2 ^ 64))
def gShl : D → D → Option D := gI okShl fun i j => i * 2 ^ j.toNat
theorem o_shl : Op2 K (rI CPow fun i j => .int (i * 2 ^ j.toNat)) gShl := o_I fun _ _ h => by
  unfold okShl at h
  rw [Bool.and_eq_true, Bool.and_eq_true] at h
  exact ⟨of_decide_eq_true h.1, of_decide_eq_true h.2.1, of_decide_eq_true h.2.2⟩
/-- a product: ints, a list or a tuple times an int -/
def okRep (n : Nat) (k : Int) : Bool := (decide (-(2 ^ 63) ≤ k) && decide (k < 2 ^ 63)) && fits (n * k.toNat)
def gMul : D → D → Option D
  | .int i, .int j => match okMul i j with
    | true => some (.int (i * j))
    | false => none
  | .list xs, .int k => match okRep xs.length k with
    | true => some (.list (List.replicate k.toNat xs).flatten)
    | false => none
  | _, _ => none
def gRepN : D → D → Option (List D)
  | .list xs, .int k => match okRep xs.length k with
    | true => some (List.replicate k.toNat xs).flatten
    | false => none
  | _, _ => none
theorem okRep_ok {n : Nat} {k : Int} (h : okRep n k = true) : -(2 ^ 63) ≤ k ∧ k < 2 ^ 63 ∧ n * k.toNat ≤ sizeLine := by
  unfold okRep at h
  rw [Bool.and_eq_true, Bool.and_eq_true] at h
  exact ⟨of_decide_eq_true h.1.1, of_decide_eq_true h.1.2, fits_ok h.2⟩
theorem DpAll.repl {F : Hp} {vs : List V} {xs : List D} (d : DpAll K F vs xs) : ∀ n : Nat, DpAll K F (List.replicate n vs).flatten (List.replicate n xs).flatten
  | 0 => .nil
  | n + 1 => by
    simp only [List.replicate_succ, List.flatten_cons]
    exact DpAll.app d (DpAll.repl d n)
theorem o_mul : Op2 K (orR (rI CMulW fun i j => .int (i * j)) rRep) gMul := fun F H v u x y z Q s b1 b2 e k => by
  unfold gMul at e
  split at e
  · split at e
    · rename_i hq
      cases e
      exact .inl ⟨_, _, b1.int, b2.int, okMul_ok hq, k F H _ .refl (.int _)⟩
    · cases e
  · split at e
    · rename_i hq
      cases e
      obtain ⟨a, vs, rfl, h1, d1⟩ := b1.list s
      obtain rfl := b2.int
      obtain ⟨q1, q2, q3⟩ := okRep_ok hq
      refine .inr ⟨a, _, vs, rfl, rfl, h1, q1, q2, by rw [DpAll.len d1]; exact q3, fun p hp => ?_⟩
      exact k _ _ _ (.one hp) (.lst upd_same (DpmA (same_new (s.free hp)) (DpAll.repl d1 _)))
    · cases e
  · cases e
theorem o_repN : OpN2 K rRep gRepN := fun F H v u x y z Q s b1 b2 e k => by
  unfold gRepN at e
  split at e
  · split at e
    · rename_i hq
      cases e
      obtain ⟨a, vs, rfl, h1, d1⟩ := b1.list s
      obtain rfl := b2.int
      obtain ⟨q1, q2, q3⟩ := okRep_ok hq
      exact ⟨a, _, vs, rfl, rfl, h1, q1, q2, by rw [DpAll.len d1]; exact q3, fun p hp => k p _ hp (DpAll.repl d1 _)⟩
    · cases e
  · cases e
theorem op_mulX : OpR X (binaryOp .Mult) (orR (rI CMulW fun i j => .int (i * j)) rRep) := OpR.orR op_mulW op_rep
/-! ### comparisons -/
def lexI : List D → List D → Option Bool
  | [], [] => some false
  | [], _ :: _ => some true
  | _ :: _, [] => some false
  | .int i :: r, .int j :: t => if i < j then some true else if j < i then some false else lexI r t
  | _, _ => none
def gLt : D → D → Option D
  | .int i, .int j => some (.bool (decide (i < j)))
  | _, _ => none
def gLe : D → D → Option D := gB fun i j => decide (i ≤ j)
def gGt : D → D → Option D := gB fun i j => decide (j < i)
def gGe : D → D → Option D := gB fun i j => decide (j ≤ i)
def intsD : List D → Option (List Int)
  | [] => some []
  | .int i :: r => match intsD r with
    | some is => some (i :: is)
    | none => none
  | _ :: _ => none
theorem intsD_some : ∀ {xs : List D} {is : List Int}, intsD xs = some is → xs = is.map PyData.int
  | [], _, h => by cases h; rfl
  | .int i :: r, is, h => by
    unfold intsD at h
    split at h
    · rename_i js e
      cases h
      rw [intsD_some e]; rfl
    · cases h
  | .none :: _, _, h => by cases h
  | .bool _ :: _, _, h => by cases h
  | .str _ :: _, _, h => by cases h
  | .list _ :: _, _, h => by cases h
  | .tuple _ :: _, _, h => by cases h
  | .dict _ :: _, _, h => by cases h
theorem intsD_map : ∀ is : List Int, intsD (is.map PyData.int) = some is
  | [] => rfl
  | i :: r => by simp only [List.map_cons, intsD, intsD_map r]
theorem DpAll.vints {F : Hp} : ∀ {vs : List V} {is : List Int}, DpAll K F vs (is.map PyData.int) → vs = is.map V.int
  | [], [], _ => rfl
  | [], _ :: _, h => by cases h
  | _ :: _, [], h => by cases h
  | v :: vs, i :: is, h => by
    cases h with
    | cons h1 h2 =>
      cases h1
      rw [List.map_cons, DpAll.vints h2]
/-- <: ints, tuples of ints -/
def gLtX : D → D → Option D
  | .int i, .int j => some (.bool (decide (i < j)))
  | .tuple xs, .tuple ys => match intsD xs, intsD ys with
    | some is, some js => some (.bool (HT.lexLt is js))
    | _, _ => none
  | _, _ => none
theorem o_lt : Op2 K (orR (rI0 fun i j => .bl (decide (i < j))) (rLtT K)) gLtX := fun F H v u x y z Q s b1 b2 e k => by
  unfold gLtX at e
  split at e
  · cases e
    exact .inl ⟨_, _, b1.int, b2.int, k F H _ .refl (.bl _)⟩
  · split at e
    · rename_i is js e1 e2
      cases e
      obtain rfl := intsD_some e1
      obtain rfl := intsD_some e2
      obtain ⟨a, vs, rfl, h1, d1⟩ := b1.tuple s
      obtain ⟨b, us, rfl, h2, d2⟩ := b2.tuple s
      obtain rfl := d1.vints
      obtain rfl := d2.vints
      exact .inr ⟨a, b, is, js, rfl, rfl, h1, h2, k F H _ .refl (.bl _)⟩
    · cases e
  · cases e
theorem op_ltX (hu : X.A.units < cLine) : OpR X (compareOp .Lt) (orR (rI0 fun i j => .bl (decide (i < j))) (rLtT X.K)) := OpR.orR op_lt (op_ltT hu)
def shp (d : D) : Bool := SeqAt.shaped d
def gEq (x y : D) : Option D := match shp x && shp y with
  | true => some (.bool (PyData.eqv x y))
  | false => none
def gNe (x y : D) : Option D := match shp x && shp y with
  | true => some (.bool (!PyData.eqv x y))
  | false => none
theorem shp_lay {d : D} (h : shp d = true) : d.canLay0 = true := (Bool.and_eq_true_iff.mp h).1
theorem o_eq : Op2 K (rEqD K) gEq := fun F H v u x y z Q s b1 b2 e k => by
  unfold gEq at e
  split at e
  · rename_i h
    rw [Bool.and_eq_true] at h
    cases e
    exact ⟨x, y, (b1.dp s).up (shp_lay h.1), (b2.dp s).up (shp_lay h.2), h.1, h.2, k F H _ .refl (.bl _)⟩
  · cases e
theorem o_ne : Op2 K (rNeD K) gNe := fun F H v u x y z Q s b1 b2 e k => by
  unfold gNe at e
  split at e
  · rename_i h
    rw [Bool.and_eq_true] at h
    cases e
    exact ⟨x, y, (b1.dp s).up (shp_lay h.1), (b2.dp s).up (shp_lay h.2), h.1, h.2, k F H _ .refl (.bl _)⟩
  · cases e
def isNone : D → Bool
  | .none => true
  | _ => false
def gIs : D → D → Option D
  | x, .none => some (.bool (isNone x))
  | _, _ => none
def gIsNot : D → D → Option D
  | x, .none => some (.bool (!isNone x))
  | _, _ => none
theorem isNone_dp {F H : Hp} {v : V} {x : D} (b : Bp K F H v x) : decide (v = .non) = isNone x := by
  rcases b with b | ⟨a, vs, ys, rfl, rfl, h1, h2⟩
  · cases b <;> simp [isNone]
  · simp [isNone]
theorem o_is : Op2 K (fun x y H Q => y = .non ∧ Q (.bl (decide (x = .non))) H) gIs := fun F H v u x y z Q s b1 b2 e k => by
  unfold gIs at e
  split at e
  · cases e
    refine ⟨b2.none, ?_⟩
    rw [isNone_dp b1]
    exact k F H _ .refl (.bl _)
  · cases e
theorem o_isNot : Op2 K (fun x y H Q => y = .non ∧ Q (.bl (!decide (x = .non))) H) gIsNot := fun F H v u x y z Q s b1 b2 e k => by
  unfold gIsNot at e
  split at e
  · cases e
    refine ⟨b2.none, ?_⟩
    rw [isNone_dp b1]
    exact k F H _ .refl (.bl _)
  · cases e
def gIn (x : D) : D → Option D
  | .list ys => match shp x && shp (.list ys) with
    | true => some (.bool (ys.any fun z => PyData.eqv z x))
    | false => none
  | _ => none
def gNotIn (x : D) : D → Option D
  | .list ys => match shp x && shp (.list ys) with
    | true => some (.bool (!ys.any fun z => PyData.eqv z x))
    | false => none
  | _ => none
theorem o_in : Op2 K (rInD K) gIn := fun F H v u x y z Q s b1 b2 e k => by
  unfold gIn at e
  split at e
  · split at e
    · rename_i h
      rw [Bool.and_eq_true] at h
      cases e
      exact ⟨x, _, (b1.dp s).up (shp_lay h.1), (b2.dp s).up (shp_lay h.2), h.1, h.2, k F H _ .refl (.bl _)⟩
    · cases e
  · cases e
theorem o_notIn : Op2 K (rNotInD K) gNotIn := fun F H v u x y z Q s b1 b2 e k => by
  unfold gNotIn at e
  split at e
  · split at e
    · rename_i h
      rw [Bool.and_eq_true] at h
      cases e
      exact ⟨x, _, (b1.dp s).up (shp_lay h.1), (b2.dp s).up (shp_lay h.2), h.1, h.2, k F H _ .refl (.bl _)⟩
    · cases e
  · cases e
/-! ### places -/
def gIx : D → D → Option D
  | .list xs, .int i => atI xs i
  | .tuple xs, .int i => atI xs i
  | _, _ => none
theorem atI_dp {F : Hp} {vs : List V} {xs : List D} {i : Int} {x : D} (d : DpAll K F vs xs) (h : atI xs i = some x) : ∃ v, atI vs i = some v ∧ Dp K F v x := by
  unfold atI at h ⊢
  rw [DpAll.len d]
  cases q : ixN xs.length i with
  | none => rw [q] at h; cases h
  | some j =>
    rw [q] at h
    exact DpAll.get d h
theorem o_ix : Op2 K (rIx K) gIx := fun F H v u x y z Q s b1 b2 e k => by
  unfold gIx at e
  split at e
  · obtain ⟨a, vs, rfl, h1, d1⟩ := b1.list s
    obtain rfl := b2.int
    obtain ⟨w, h2, d2⟩ := atI_dp d1 e
    exact .inl ⟨a, vs, _, w, rfl, rfl, SqL.of h1, h2, k F H _ .refl d2⟩
  · obtain ⟨a, vs, rfl, h1, d1⟩ := b1.tuple s
    obtain rfl := b2.int
    obtain ⟨w, h2, d2⟩ := atI_dp d1 e
    exact .inr (.inl ⟨a, vs, _, w, rfl, rfl, h1, h2, k F H _ .refl d2⟩)
  · cases e
end
end CS
set_option Elab.async false
set_option linter.all false
set_option maxRecDepth 100000
set_option maxHeartbeats 4000000
set_option autoImplicit false
namespace CS
open PySem PySem.Spec PyProof.Rows L2
/-! ### displays -/
def gTp (xs : List D) : Option D := match fits xs.length with
  | true => some (.tuple xs)
  | false => none
def gLs (xs : List D) : Option (List D) := match fits xs.length with
  | true => some xs
  | false => none
def itemsD : D → Option (List D)
  | .list xs => some xs
  | .tuple xs => some xs
  | _ => none
def eAst (f : ES D) (g : ES (List D)) : ES (List D) := eb f fun x => eb (eo (itemsD x)) fun xs => eb g fun ys => ep (xs ++ ys)
section
variable {K : PySem.W.Frag} {X : Cx}
theorem dtup {es : List Expr} {x1 pos} {f : ES (List D)} (h : PA X es (tAs X.K f)) : PE X (.Tuple es x1 pos) (tE X.K (eAs gTp f)) := PEw (pe_tup h) fun σ H Q q => by
  obtain ⟨B, F, ρ, R, z, ρ', e, k⟩ := q
  obtain ⟨xs, ρ1, e1, e2⟩ := eb_some e
  obtain ⟨z', e3, e4⟩ := eo_some e2
  cases e4
  unfold gTp at e3
  split at e3
  · rename_i hf
    cases e3
    exact ⟨B, F, ρ, R, xs, _, e1, fun F1 H1 vs s1 R1 d1 => ⟨by rw [DpAll.len d1]; exact fits_ok hf, fun p hp => end1 s1 R1 k _ _ _ (.one hp) (.tup (SqT.of upd_same) (DpmA (same_new (R1.sub.free hp)) d1))⟩⟩
  · cases e3
theorem dlst {es : List Expr} {pos} {f : ES (List D)} (h : PA X es (tAs X.K f)) : PE X (.List es pos) (tN X.K (eAs gLs f)) := PEw (pe_lst h) fun σ H Q q => by
  obtain ⟨B, F, ρ, R, z, ρ', e, k⟩ := q
  obtain ⟨xs, ρ1, e1, e2⟩ := eb_some e
  obtain ⟨z', e3, e4⟩ := eo_some e2
  cases e4
  unfold gLs at e3
  split at e3
  · rename_i hf
    cases e3
    exact ⟨B, F, ρ, R, _, _, e1, fun F1 H1 vs s1 R1 d1 => ⟨by rw [DpAll.len d1]; exact fits_ok hf, fun p hp => endN s1 R1 k p vs hp d1⟩⟩
  · cases e3
theorem astar {e : Expr} {p : Pos} {es : List Expr} {f : ES D} {g : ES (List D)} (h : PE X e (tB X.K f)) (hr : PA X es (tAs X.K g)) (hs : starEach (.Starred e p :: es) X.env = (true, eval e X.env) :: starEach es X.env := by rfl) : PA X (.Starred e p :: es) (tAs X.K (eAst f g)) := PAw (StX.pa_star h hr hs) fun σ H Q q => by
  obtain ⟨B, F, ρ, R, z, ρ', e, k⟩ := q
  obtain ⟨x, ρ1, e1, e2⟩ := eb_some e
  obtain ⟨xs, ρ2, e3, e4⟩ := eb_some e2
  obtain ⟨xs', e5, e6⟩ := eo_some e3
  cases e6
  obtain ⟨ys, ρ3, e7, e8⟩ := eb_some e4
  cases e8
  refine ⟨B, F, ρ, R, x, _, e1, fun F1 H1 v s1 R1 b1 => ?_⟩
  have fin : ∀ {a : Addr} {vs : List V}, v = .ref a → (SqT X.K H1 a vs ∨ SqL X.K H1 a vs) → DpAll X.K F1 vs xs → StX.tStar X.K (fun _ _ Q => Q v H1) (tAs X.K g) σ H1 Q := fun {a vs} ev hs hd => ⟨a, vs, ev, hs, B, F1, _, R1, ys, _, e7, fun F2 H2 us s2 R2 d2 => k F2 H2 _ (s1.trans s2) R2 (DpAll.app (DpmA s2 hd) d2)⟩
  unfold itemsD at e5
  split at e5
  · cases e5
    obtain ⟨a, vs, rfl, h1, d1⟩ := b1.list R1.sub
    exact fin rfl (.inr (SqL.of h1)) d1
  · cases e5
    obtain ⟨a, vs, rfl, h1, d1⟩ := b1.tuple R1.sub
    exact fin rfl (.inl h1) d1
  · cases e5
/-! ### built-ins -/
section
variable {x id T : String} {nm : Str} {p pos : Pos} {a b : Expr}
theorem w_cb1 {r : List V → Hp → VK → Prop} {g : D → Option D} (o : Op1 K (fun v H Q => r [v] H Q) g) {f : ES D} {σ : L2.St} {H : Hp} {Q : VK} (h : tE K (e1 g f) σ H Q) : tCB r (tCons (tB K f) tNil) σ H Q := w_1 o h
theorem w_cb1N {r : List V → Hp → VK → Prop} {g : D → Option (List D)} (o : OpN1 K (fun v H Q => r [v] H Q) g) {f : ES D} {σ : L2.St} {H : Hp} {Q : VK} (h : tN K (e1 g f) σ H Q) : tCB r (tCons (tB K f) tNil) σ H Q := w_N1 o h
theorem w_cb2 {r : List V → Hp → VK → Prop} {g : D → D → Option D} (o : Op2 K (fun v u H Q => r [v, u] H Q) g) {f f' : ES D} {σ : L2.St} {H : Hp} {Q : VK} (h : tE K (e2 g f f') σ H Q) : tCB r (tCons (tE K f) (tCons (tB K f') tNil)) σ H Q := w_2 o h
theorem dB1 {r : List V → Hp → VK → Prop} {g : D → Option D} {f : ES D} (o : Op1 X.K (fun v H Q => r [v] H Q) g) (hc : CallR X (.builtin id) r) (hg : Gl X nm) (hm : X.mg nm = none) (hv : bootBuiltins nm = some (.builtin id)) (ha : PE X a (tB X.K f)) (hn : nm ≠ "__name__" := by decide) (hdb : (nm == ("__debug__" : Str)) = false := by decide)
    (he : starEach [a] X.env = (false, eval a X.env) :: starEach [] X.env := by rfl) (hpl : (backTo pos (starEach [] X.env)).any (·.1) = false := by rfl) : PE X (.Call (.Name nm p) [a] [] pos) (tE X.K (e1 g f)) := PEw (pe_callB hc hg hm hv (pa_cons ha pa_nil he) hn hdb he hpl) fun _ _ _ => w_cb1 o
theorem dT1 {r : List V → Hp → VK → Prop} {g : D → Option D} {f : ES D} (o : Op1 X.K (fun v H Q => r [v] H Q) g) (hc : CallR X (.type T) r) (hg : Gl X nm) (hm : X.mg nm = none) (hv : bootBuiltins nm = some (.type T)) (ha : PE X a (tB X.K f)) (hn : nm ≠ "__name__" := by decide) (hdb : (nm == ("__debug__" : Str)) = false := by decide)
    (he : starEach [a] X.env = (false, eval a X.env) :: starEach [] X.env := by rfl) (hpl : (backTo pos (starEach [] X.env)).any (·.1) = false := by rfl) : PE X (.Call (.Name nm p) [a] [] pos) (tE X.K (e1 g f)) := PEw (pe_callTy hc hg hm hv (pa_cons ha pa_nil he) hn hdb he hpl) fun _ _ _ => w_cb1 o
theorem dB1N {r : List V → Hp → VK → Prop} {g : D → Option (List D)} {f : ES D} (o : OpN1 X.K (fun v H Q => r [v] H Q) g) (hc : CallR X (.builtin id) r) (hg : Gl X nm) (hm : X.mg nm = none) (hv : bootBuiltins nm = some (.builtin id)) (ha : PE X a (tB X.K f)) (hn : nm ≠ "__name__" := by decide) (hdb : (nm == ("__debug__" : Str)) = false := by decide)
    (he : starEach [a] X.env = (false, eval a X.env) :: starEach [] X.env := by rfl) (hpl : (backTo pos (starEach [] X.env)).any (·.1) = false := by rfl) : PE X (.Call (.Name nm p) [a] [] pos) (tN X.K (e1 g f)) := PEw (pe_callB hc hg hm hv (pa_cons ha pa_nil he) hn hdb he hpl) fun _ _ _ => w_cb1N o
theorem dT1N {r : List V → Hp → VK → Prop} {g : D → Option (List D)} {f : ES D} (o : OpN1 X.K (fun v H Q => r [v] H Q) g) (hc : CallR X (.type T) r) (hg : Gl X nm) (hm : X.mg nm = none) (hv : bootBuiltins nm = some (.type T)) (ha : PE X a (tB X.K f)) (hn : nm ≠ "__name__" := by decide) (hdb : (nm == ("__debug__" : Str)) = false := by decide)
    (he : starEach [a] X.env = (false, eval a X.env) :: starEach [] X.env := by rfl) (hpl : (backTo pos (starEach [] X.env)).any (·.1) = false := by rfl) : PE X (.Call (.Name nm p) [a] [] pos) (tN X.K (e1 g f)) := PEw (pe_callTy hc hg hm hv (pa_cons ha pa_nil he) hn hdb he hpl) fun _ _ _ => w_cb1N o
theorem dB2 {r : List V → Hp → VK → Prop} {g : D → D → Option D} {f f' : ES D} (o : Op2 X.K (fun v u H Q => r [v, u] H Q) g) (hc : CallR X (.builtin id) r) (hg : Gl X nm) (hm : X.mg nm = none) (hv : bootBuiltins nm = some (.builtin id)) (ha : PE X a (tE X.K f)) (hb : PE X b (tB X.K f')) (hn : nm ≠ "__name__" := by decide) (hdb : (nm == ("__debug__" : Str)) = false := by decide)
    (he : starEach [a, b] X.env = (false, eval a X.env) :: starEach [b] X.env := by rfl) (he2 : starEach [b] X.env = (false, eval b X.env) :: starEach [] X.env := by rfl) (hpl : (backTo pos (starEach [b] X.env)).any (·.1) = false := by rfl) : PE X (.Call (.Name nm p) [a, b] [] pos) (tE X.K (e2 g f f')) := PEw (pe_callB hc hg hm hv (pa_cons ha (pa_cons hb pa_nil he2) he) hn hdb he hpl) fun _ _ _ => w_cb2 o
end
def gLen : D → Option D
  | .list xs => some (.int xs.length)
  | .tuple xs => some (.int xs.length)
  | .str z => match fits z.length with
    | true => some (.int z.length)
    | false => none
  | .dict [(.none, .list xs)] => some (.int xs.length)
  | _ => none
theorem o_len : Op1 K (fun v H Q => ∃ x n, [v] = [x] ∧ LenV K x H n ∧ Q (.int n) H) gLen := fun F H v x z Q s b e k => by
  unfold gLen at e
  split at e
  · cases e
    obtain ⟨a, vs, rfl, h1, d1⟩ := b.list s
    exact ⟨_, _, rfl, .inl ⟨vs, SqL.of h1, rfl⟩, by rw [DpAll.len d1]; exact k F H _ .refl (.int _)⟩
  · cases e
    obtain ⟨a, vs, rfl, h1, d1⟩ := b.tuple s
    exact ⟨_, _, rfl, .inr ⟨vs, h1, rfl⟩, by rw [DpAll.len d1]; exact k F H _ .refl (.int _)⟩
  · split at e
    · rename_i hf
      cases e
      obtain rfl := b.str
      exact ⟨_, _, rfl, ⟨fits_ok hf, rfl⟩, k F H _ .refl (.int _)⟩
    · cases e
  · cases e
    have d := b.ref
    cases d with
    | @scr a ns h1 => exact ⟨_, _, rfl, .inl ⟨_, CS.Same.seqL s h1, rfl⟩, by simpa using k F H _ .refl (.int _)⟩
  · cases e
def gAbs : D → Option D
  | .int i => some (.int (if i < 0 then -i else i))
  | _ => none
theorem o_abs : Op1 K (fun v H Q => ∃ i, [v] = [.int i] ∧ Q (.int (if i < 0 then -i else i)) H) gAbs := fun F H v x z Q s b e k => by
  unfold gAbs at e
  split at e
  · cases e
    obtain rfl := b.int
    exact ⟨_, rfl, k F H _ .refl (.int _)⟩
  · cases e
def gInt : D → Option D
  | .int i => some (.int i)
  | .bool b => some (.int (if b then 1 else 0))
  | _ => none
theorem o_int : Op1 K (fun v H Q => (∃ i, [v] = [.int i] ∧ Q (.int i) H) ∨ ∃ k, [v] = [.bl k] ∧ Q (.int (if k then 1 else 0)) H) gInt := fun F H v x z Q s b e k => by
  unfold gInt at e
  split at e
  · cases e
    obtain rfl := b.int
    exact .inl ⟨_, rfl, k F H _ .refl (.int _)⟩
  · cases e
    obtain rfl := b.bool
    exact .inr ⟨_, rfl, k F H _ .refl (.int _)⟩
  · cases e
def gMax2 : D → D → Option D
  | .int i, .int j => some (.int (if j > i then j else i))
  | _, _ => none
def gMin2 : D → D → Option D
  | .int i, .int j => some (.int (if j < i then j else i))
  | _, _ => none
theorem o_max2 : Op2 K (fun v u H Q => ∃ i j, [v, u] = [.int i, .int j] ∧ Q (.int (if j > i then j else i)) H) gMax2 := fun F H v u x y z Q s b1 b2 e k => by
  unfold gMax2 at e
  split at e
  · cases e
    obtain rfl := b1.int
    obtain rfl := b2.int
    exact ⟨_, _, rfl, k F H _ .refl (.int _)⟩
  · cases e
theorem o_min2 : Op2 K (fun v u H Q => ∃ i j, [v, u] = [.int i, .int j] ∧ Q (.int (if j < i then j else i)) H) gMin2 := fun F H v u x y z Q s b1 b2 e k => by
  unfold gMin2 at e
  split at e
  · cases e
    obtain rfl := b1.int
    obtain rfl := b2.int
    exact ⟨_, _, rfl, k F H _ .refl (.int _)⟩
  · cases e
/-- a list of ints as ints -/
def intsOf : D → Option (List Int)
  | .list xs => intsD xs
  | _ => none
theorem intsOf_v {F H : Hp} {v : V} {x : D} {is : List Int} (s : Same F H) (b : Bp K F H v x) (h : intsOf x = some is) : ∃ a, v = .ref a ∧ SqL K H a (is.map V.int) := by
  unfold intsOf at h
  split at h
  · obtain rfl := intsD_some h
    obtain ⟨a, vs, rfl, h1, d1⟩ := b.list s
    obtain rfl := d1.vints
    exact ⟨a, rfl, SqL.of h1⟩
  · cases h
def gSum (x : D) : Option D := match intsOf x with
  | some is => some (.int is.sum)
  | none => none
theorem o_sum : Op1 K (fun v H Q => rSum K [v] H Q) gSum := fun F H v x z Q s b e k => by
  unfold gSum at e
  split at e
  · rename_i is h
    cases e
    obtain ⟨a, rfl, h1⟩ := intsOf_v s b h
    exact ⟨a, is, rfl, h1, k F H _ .refl (.int _)⟩
  · cases e
def maxI : List Int → Option Int
  | [] => none
  | i :: r => some (r.foldl (fun a b => if b > a then b else a) i)
def minI : List Int → Option Int
  | [] => none
  | i :: r => some (r.foldl (fun a b => if b < a then b else a) i)
theorem maxI_fold : ∀ (r : List Int) (i : Int), (r.foldl (fun a b => if b > a then b else a) i) ∈ i :: r ∧ ∀ y ∈ i :: r, y ≤ r.foldl (fun a b => if b > a then b else a) i
  | [], i => by simp
  | j :: r, i => by
    obtain ⟨h1, h2⟩ := maxI_fold r (if j > i then j else i)
    simp only [List.foldl_cons]
    refine ⟨?_, fun y hy => ?_⟩
    · rcases List.mem_cons.mp h1 with q | q
      · rw [q]
        by_cases h : j > i
        · rw [if_pos h]; simp
        · rw [if_neg h]; simp
      · exact List.mem_cons_of_mem _ (List.mem_cons_of_mem _ q)
    · have h0 : (if j > i then j else i) ≤ _ := h2 _ List.mem_cons_self
      rcases List.mem_cons.mp hy with q | q
      · subst q
        refine Int.le_trans ?_ h0
        by_cases h : j > y
        · rw [if_pos h]; omega
        · rw [if_neg h]; omega
      · rcases List.mem_cons.mp q with q | q
        · subst q
          refine Int.le_trans ?_ h0
          by_cases h : y > i
          · rw [if_pos h]; omega
          · rw [if_neg h]; omega
        · exact h2 y (List.mem_cons_of_mem _ q)
theorem minI_fold : ∀ (r : List Int) (i : Int), (r.foldl (fun a b => if b < a then b else a) i) ∈ i :: r ∧ ∀ y ∈ i :: r, r.foldl (fun a b => if b < a then b else a) i ≤ y
  | [], i => by simp
  | j :: r, i => by
    obtain ⟨h1, h2⟩ := minI_fold r (if j < i then j else i)
    simp only [List.foldl_cons]
    refine ⟨?_, fun y hy => ?_⟩
    · rcases List.mem_cons.mp h1 with q | q
      · rw [q]
        by_cases h : j < i
        · rw [if_pos h]; simp
        · rw [if_neg h]; simp
      · exact List.mem_cons_of_mem _ (List.mem_cons_of_mem _ q)
    · have h0 : _ ≤ (if j < i then j else i) := h2 _ List.mem_cons_self
      rcases List.mem_cons.mp hy with q | q
      · subst q
        refine Int.le_trans h0 ?_
        by_cases h : j < y
        · rw [if_pos h]; omega
        · rw [if_neg h]; omega
      · rcases List.mem_cons.mp q with q | q
        · subst q
          refine Int.le_trans h0 ?_
          by_cases h : y < i
          · rw [if_pos h]; omega
          · rw [if_neg h]; omega
        · exact h2 y (List.mem_cons_of_mem _ q)
def gMax (x : D) : Option D := match intsOf x with
  | some is => match maxI is with
    | some m => some (.int m)
    | none => none
  | none => none
def gMin (x : D) : Option D := match intsOf x with
  | some is => match minI is with
    | some m => some (.int m)
    | none => none
  | none => none
theorem o_max : Op1 K (fun v H Q => rMax K [v] H Q) gMax := fun F H v x z Q s b e k => by
  unfold gMax at e
  split at e
  · rename_i is h
    split at e
    · rename_i m hm
      cases e
      obtain ⟨a, rfl, h1⟩ := intsOf_v s b h
      cases is with
      | nil => cases hm
      | cons i r =>
        cases hm
        obtain ⟨f1, f2⟩ := maxI_fold r i
        refine ⟨a, _, rfl, h1, Nat.succ_pos _, fun m q1 q2 => ?_⟩
        obtain rfl : m = _ := Int.le_antisymm (f2 m q1) (q2 _ f1)
        exact k F H _ .refl (.int _)
    · cases e
  · cases e
theorem o_min : Op1 K (fun v H Q => rMin K [v] H Q) gMin := fun F H v x z Q s b e k => by
  unfold gMin at e
  split at e
  · rename_i is h
    split at e
    · rename_i m hm
      cases e
      obtain ⟨a, rfl, h1⟩ := intsOf_v s b h
      cases is with
      | nil => cases hm
      | cons i r =>
        cases hm
        obtain ⟨f1, f2⟩ := minI_fold r i
        refine ⟨a, _, rfl, h1, Nat.succ_pos _, fun m q1 q2 => ?_⟩
        obtain rfl : m = _ := Int.le_antisymm (q2 _ f1) (f2 m q1)
        exact k F H _ .refl (.int _)
    · cases e
  · cases e
def boolsD : List D → Option (List Bool)
  | [] => some []
  | .bool b :: r => match boolsD r with
    | some bs => some (b :: bs)
    | none => none
  | _ :: _ => none
theorem boolsD_some : ∀ {xs : List D} {bs : List Bool}, boolsD xs = some bs → xs = bs.map PyData.bool
  | [], _, h => by cases h; rfl
  | .bool b :: r, bs, h => by
    unfold boolsD at h
    split at h
    · rename_i js e
      cases h
      rw [boolsD_some e]; rfl
    · cases h
  | .none :: _, _, h => by cases h
  | .int _ :: _, _, h => by cases h
  | .str _ :: _, _, h => by cases h
  | .list _ :: _, _, h => by cases h
  | .tuple _ :: _, _, h => by cases h
  | .dict _ :: _, _, h => by cases h
theorem boolsD_map : ∀ bs : List Bool, boolsD (bs.map PyData.bool) = some bs
  | [] => rfl
  | i :: r => by simp only [List.map_cons, boolsD, boolsD_map r]
theorem DpAll.vbools {F : Hp} : ∀ {vs : List V} {is : List Bool}, DpAll K F vs (is.map PyData.bool) → vs = is.map V.bl
  | [], [], _ => rfl
  | [], _ :: _, h => by cases h
  | _ :: _, [], h => by cases h
  | v :: vs, i :: is, h => by
    cases h with
    | cons h1 h2 =>
      cases h1
      rw [List.map_cons, DpAll.vbools h2]
def gAll : D → Option D
  | .list xs => match boolsD xs with
    | some bs => some (.bool (bs.all id))
    | none => none
  | _ => none
def gAny : D → Option D
  | .list xs => match boolsD xs with
    | some bs => some (.bool (bs.any id))
    | none => none
  | _ => none
theorem o_all : Op1 K (fun v H Q => rAll K [v] H Q) gAll := fun F H v x z Q s b e k => by
  unfold gAll at e
  split at e
  · split at e
    · rename_i bs h
      cases e
      obtain rfl := boolsD_some h
      obtain ⟨a, vs, rfl, h1, d1⟩ := b.list s
      obtain rfl := d1.vbools
      exact ⟨a, bs, rfl, SqL.of h1, k F H _ .refl (.bl _)⟩
    · cases e
  · cases e
theorem o_any : Op1 K (fun v H Q => rAny K [v] H Q) gAny := fun F H v x z Q s b e k => by
  unfold gAny at e
  split at e
  · split at e
    · rename_i bs h
      cases e
      obtain rfl := boolsD_some h
      obtain ⟨a, vs, rfl, h1, d1⟩ := b.list s
      obtain rfl := d1.vbools
      exact ⟨a, bs, rfl, SqL.of h1, k F H _ .refl (.bl _)⟩
    · cases e
  · cases e
theorem o_list : OpN1 K (fun v H Q => ∃ p ys, [v] = [.ref p] ∧ (SqL K H p ys ∨ SqT K H p ys) ∧ ∀ l, H l = none → Q (.ref l) (upd H l (.lst ys))) itemsD := fun F H v x z Q s b e k => by
  unfold itemsD at e
  split at e
  · cases e
    obtain ⟨a, vs, rfl, h1, d1⟩ := b.list s
    exact ⟨a, vs, rfl, .inl (SqL.of h1), fun l hl => k l vs hl d1⟩
  · cases e
    obtain ⟨a, vs, rfl, h1, d1⟩ := b.tuple s
    exact ⟨a, vs, rfl, .inr h1, fun l hl => k l vs hl d1⟩
  · cases e
def gTuple (x : D) : Option D := match itemsD x with
  | some xs => some (.tuple xs)
  | none => none
theorem o_tuple : Op1 K (fun v H Q => ∃ p ys, [v] = [.ref p] ∧ ((SqL K H p ys ∧ ∀ l, H l = none → Q (.ref l) (upd H l (.tup ys))) ∨ (SqT K H p ys ∧ Q (.ref p) H))) gTuple := fun F H v x z Q s b e k => by
  unfold gTuple itemsD at e
  cases x with
  | list xs =>
    cases e
    obtain ⟨a, vs, rfl, h1, d1⟩ := b.list s
    exact ⟨a, vs, rfl, .inl ⟨SqL.of h1, fun l hl => k _ _ _ (.one hl) (.tup (SqT.of upd_same) (DpmA (same_new (s.free hl)) d1))⟩⟩
  | tuple xs =>
    cases e
    obtain ⟨a, vs, rfl, h1, d1⟩ := b.tuple s
    rcases b with b | ⟨_, _, _, _, q, _⟩
    · exact ⟨a, vs, rfl, .inr ⟨h1, k F H _ .refl b⟩⟩
    · cases q
  | _ => cases e
/-- isinstance of a built-in class -/
def tyN : D → Option String
  | .none => some "NoneType"
  | .bool _ => some "bool"
  | .int _ => some "int"
  | .str _ => some "str"
  | .list _ => some "list"
  | .tuple _ => some "tuple"
  | .dict _ => none
theorem tyN_ty {F H : Hp} {v : V} {x : D} {n : String} (s : Same F H) (b : Bp K F H v x) (h : tyN x = some n) : TyX K H v (.type n) := by
  cases x with
  | none => cases h; rw [b.none]; exact .base .non
  | bool c => cases h; rw [b.bool]; exact .base (.bl _)
  | int i => cases h; rw [b.int]; exact .base (.int _)
  | str z => cases h; rw [b.str]; exact .base (.str _)
  | list xs =>
    cases h
    obtain ⟨a, vs, rfl, h1, d1⟩ := b.list s
    exact .base (.lst h1)
  | tuple xs =>
    cases h
    obtain ⟨a, vs, rfl, h1, d1⟩ := b.tuple s
    rcases h1 with (h1 | ⟨o, h1⟩) | ⟨o, its, n, h1, h2, _⟩
    · exact .base (.tup h1)
    · exact .fTuple h1
    · exact .kTuple h1 h2
  | dict _ => cases h
def isT (T : String) (n : String) : Bool := n == T || (n == "bool" && T == "int")
def gIsi (T : String) (x : D) : Option D := match tyN x with
  | some n => some (.bool (isT T n))
  | none => none
theorem isT_ok {T n : String} (hT : T ∈ ["int", "bool", "str", "list", "tuple"]) (hn : n ∈ ["NoneType", "bool", "int", "str", "list", "tuple"]) : kitB n T = some (isT T n) := by
  simp only [List.mem_cons, List.not_mem_nil, or_false] at hT hn
  rcases hT with rfl | rfl | rfl | rfl | rfl <;> rcases hn with rfl | rfl | rfl | rfl | rfl | rfl <;> decide +kernel
theorem tyN_mem {x : D} {n : String} (h : tyN x = some n) : n ∈ ["NoneType", "bool", "int", "str", "list", "tuple"] := by
  cases x <;> cases h <;> simp
theorem disi {T : String} {e : Expr} {p q pos : Pos} {nm : Str} {f : ES D} (hT : T ∈ ["int", "bool", "str", "list", "tuple"]) (hg : Gl X "isinstance") (hm : X.mg "isinstance" = none) (hg2 : Gl X nm) (hm2 : X.mg nm = none) (hv2 : bootBuiltins nm = some (.type T)) (h : PE X e (tB X.K f))
    (he : starEach [e, .Name nm q] X.env = (false, eval e X.env) :: starEach [.Name nm q] X.env := by rfl) (hpl : (backTo pos (starEach [.Name nm q] X.env)).any (·.1) = false := by rfl) (hn : nm ≠ "__name__" := by decide) (hdb : (nm == ("__debug__" : Str)) = false := by decide) :
    PE X (.Call (.Name "isinstance" p) [e, .Name nm q] [] pos) (tE X.K (e1 (gIsi T) f)) :=
  PEw (pe_callB call_isi hg hm (by decide +kernel) (pa_cons h (pa_cons (pe_bltn (v := .ty T) hg2 hm2 hv2 rfl hn hdb) pa_nil) he) (by decide) (by decide) he hpl) fun σ H Q hq => by
    refine w_1 (g := gIsi T) (r := fun v H Q => rIsi X.K [v, .ty T] H Q) (fun F H v x z Q s b e k => ?_) hq
    unfold gIsi at e
    split at e
    · rename_i n hn
      cases e
      exact ⟨_, _, _, _, _, rfl, .ty T, tyN_ty s b hn, kit_ty (isT_ok hT (tyN_mem hn)), k F H _ .refl (.bl _)⟩
    · cases e
/-- -n -/
def gNeg : D → Option D
  | .int i => some (.int (-i))
  | _ => none
theorem dneg {a : Expr} {pos : Pos} {f : ES D} (h : PE X a (tB X.K f)) : PE X (.UnaryOp .USub a pos) (tE X.K (e1 gNeg f)) := PEw (pe_un un_neg h) fun σ H Q q => by
  refine w_1 (g := gNeg) (fun F H v x z Q s b e k => ?_) q
  unfold gNeg at e
  split at e
  · cases e
    exact ⟨_, b.int, k F H _ .refl (.int _)⟩
  · cases e
/-! ### slices -/
def tO (K : PySem.W.Frag) (f : ES (Option Int)) : TO := fun σ H Q => ∃ B F ρ, Rel K B σ ρ F H ∧ ∃ x ρ', f ρ = some (x, ρ') ∧ ∀ F' H', Same F F' → Rel K B σ ρ' F' H' → Q x H'
theorem POw {o : Option Expr} {t t' : TO} (h : PO X o t) (w : ∀ σ H Q, t' σ H Q → t σ H Q) : PO X o t' := ⟨fun pins s σ H Q I q => h.run pins s σ H Q I (w _ _ _ q)⟩
def intD : D → Option (Option Int)
  | .int i => some (some i)
  | _ => none
theorem onone : PO X none (tO X.K (ep none)) := POw po_none fun σ H Q q => by
  obtain ⟨B, F, ρ, R, x, ρ', e, k⟩ := q
  cases e
  exact k F H (Same.refl _) R
theorem osome {e : Expr} {f : ES D} (h : PE X e (tE X.K f)) : PO X (some e) (tO X.K (e1 intD f)) := POw (po_some h) fun σ H Q q => by
  obtain ⟨B, F, ρ, R, x, ρ', e, k⟩ := q
  obtain ⟨y, ρ1, e1, e2⟩ := eb_some e
  obtain ⟨z, e3, e4⟩ := eo_some e2
  cases e4
  unfold intD at e3
  split at e3
  · cases e3
    refine ⟨B, F, ρ, R, _, _, e1, fun F1 H1 v s1 R1 d1 => ?_⟩
    cases d1
    exact ⟨_, rfl, k F1 H1 s1 R1⟩
  · cases e3
def cutD (xs : List D) (lo hi : Option Int) : List D := (xs.drop (HT.sIx xs.length 0 lo)).take (HT.sIx xs.length xs.length hi - HT.sIx xs.length 0 lo)
theorem cut_dp {F : Hp} {vs : List V} {xs : List D} (d : DpAll K F vs xs) (lo hi : Option Int) : DpAll K F (cutV vs lo hi) (cutD xs lo hi) := by
  unfold cutV cutD
  rw [DpAll.len d]
  exact (d.drop _).take _
def gSl (lo hi : Option Int) : D → Option D
  | .list xs => some (.list (cutD xs lo hi))
  | .tuple xs => some (.tuple (cutD xs lo hi))
  | _ => none
def eSl (f : ES D) (fl fh : ES (Option Int)) : ES D := eb f fun x => eb fl fun lo => eb fh fun hi => eo (gSl lo hi x)
def rSlX (K : PySem.W.Frag) : V → Option Int → Option Int → Hp → VK → Prop := fun x lo hi H Q => rSlL K x lo hi H Q ∨ rSlA K x lo hi H Q
theorem sl_X : SlR X (CS.rSlX X.K) := SlR.or sl_list sl_tupA
theorem sl_whole {xs : List D} {lo hi : Option Int} (h : HT.sIx xs.length 0 lo = 0 ∧ HT.sIx xs.length xs.length hi = xs.length) : cutD xs lo hi = xs := by
  unfold cutD
  rw [h.1, h.2, List.drop_zero, Nat.sub_zero, List.take_length]
theorem w_sl {f : ES D} {fl fh : ES (Option Int)} {σ : L2.St} {H : Hp} {Q : VK} (h : tE K (eSl f fl fh) σ H Q) : L2.tSl (CS.rSlX K) (tE K f) (tO K fl) (tO K fh) σ H Q := by
  obtain ⟨B, F, ρ, R, z, ρ', e, k⟩ := h
  obtain ⟨x, ρ1, e1, e2⟩ := eb_some e
  obtain ⟨lo, ρ2, e3, e4⟩ := eb_some e2
  obtain ⟨hi, ρ3, e5, e6⟩ := eb_some e4
  obtain ⟨z', e7, e8⟩ := eo_some e6
  cases e8
  refine ⟨B, F, ρ, R, x, ρ1, e1, fun F1 H1 v s1 R1 d1 => ⟨B, F1, ρ1, R1, lo, ρ2, e3, fun F2 H2 s2 R2 => ⟨B, F2, ρ2, R2, hi, _, e5, fun F3 H3 s3 R3 => ?_⟩⟩⟩
  have d3 := Dpm (s2.trans s3) d1
  have k3 := end1 (s1.trans (s2.trans s3)) R3 k
  unfold gSl at e7
  split at e7
  · cases e7
    cases d3 with
    | lst hs ht => exact .inl ⟨_, _, rfl, SqL.of (R3.sub _ _ hs), fun p hp => k3 _ _ _ (.one hp) (.lst upd_same (DpmA (same_new (R3.sub.free hp)) (cut_dp ht lo hi)))⟩
  · rename_i xs
    cases e7
    cases d3 with
    | tup hs ht =>
      refine .inr ⟨_, _, rfl, CS.Same.seqT R3.sub hs, fun hw => ?_, fun _ p hp => k3 _ _ _ (.one hp) (.tup (SqT.of upd_same) (DpmA (same_new (R3.sub.free hp)) (cut_dp ht lo hi)))⟩
      rw [DpAll.len ht] at hw
      rw [sl_whole hw] at k3
      exact k3 F3 H3 _ .refl (.tup hs ht)
  · cases e7
theorem dsl {e : Expr} {lo hi : Option Expr} {p2 pos : Pos} {f : ES D} {fl fh : ES (Option Int)} (h : PE X e (tE X.K f)) (hl : PO X lo (tO X.K fl)) (hh : PO X hi (tO X.K fh)) : PE X (.Subscript e (.Slice lo hi none p2) pos) (tE X.K (eSl f fl fh)) := PEw (pe_slice sl_X h hl hh) fun _ _ _ => w_sl
theorem drev {e : Expr} {f : ES D} {k : Nat} {p1 p2 p3 pos : Pos} (h : PE X e (tB X.K f)) : PE X (.Subscript e (.Slice none none (some (.UnaryOp .USub (.Constant (.int 1) k p1) p2)) p3) pos) (tN X.K (e1 (fun x => (lD x).map List.reverse) f)) := PEw (pe_revL h) fun σ H Q q => by
  refine w_N1 (g := fun x => (lD x).map List.reverse) (r := fun x H1 Q => ∃ a xs, x = .ref a ∧ SqL X.K H1 a xs ∧ ∀ p, H1 p = none → Q (.ref p) (upd H1 p (.lst xs.reverse))) (fun F H v x z Q s b e k => ?_) q
  cases x with
  | list xs =>
    cases e
    obtain ⟨a, vs, rfl, h1, d1⟩ := b.list s
    exact ⟨a, vs, rfl, SqL.of h1, fun p hp => k p _ hp d1.rev⟩
  | _ => cases e
theorem dix {a b : Expr} {pos : Pos} {fa fb : ES D} (ha : PE X a (tE X.K fa)) (hb : PE X b (tB X.K fb)) (hs : PlainIx b) : PE X (.Subscript a b pos) (tE X.K (e2 gIx fa fb)) := PEw (pe_ix ix_seq ha hb hs) fun _ _ _ => w_2 o_ix
theorem dixL {a b : Expr} {pos : Pos} {i : Nat} {fb : ES D} (ha : PE X a (tVar i)) (hb : PE X b (tB X.K fb)) (hs : PlainIx b) : PE X (.Subscript a b pos) (tE X.K (e2L gIx i fb)) := PEw (pe_ix ix_seq ha hb hs) fun _ _ _ => w_2L o_ix
end
end CS
set_option Elab.async false
set_option linter.all false
set_option maxRecDepth 100000
set_option maxHeartbeats 4000000
set_option autoImplicit false
namespace CS
open PySem PySem.Spec PyProof.Rows L2
/-! ### several values at once, data or new lists -/
inductive Itm where
  | e (f : ES D)
  | n (f : ES (List D))
def evI : Itm → ES W
  | .e f => eb f fun x => ep (.d x)
  | .n f => eb f fun x => ep (.m x)
def evIs : List Itm → ES (List W)
  | [] => ep []
  | i :: r => eb (evI i) fun w => eb (evIs r) fun ws => ep (w :: ws)
def setW (i : Nat) : W → En → Option En
  | .d x => bd i x
  | .m xs => fun ρ => some (ρ.set i (some (.m xs)))
def setWs : List Nat → List W → En → Option En
  | [], [] => some
  | i :: is, w :: ws => fun ρ => match setW i w ρ with
    | some ρ1 => setWs is ws ρ1
    | none => none
  | _, _ => fun _ => none
def sPar (is : List Nat) (its : List Itm) : SS := fun ρ => match evIs its ρ with
  | some (ws, ρ1) => (setWs is ws ρ1).map fun ρ2 => (.nx, ρ2)
  | none => none
section
variable {K : PySem.W.Frag} {X : Cx} {ps : List Nat}
def tIm (K : PySem.W.Frag) : Itm → TE
  | .e f => tE K f
  | .n f => tN K f
/-- a value in hand -/
def Got (K : PySem.W.Frag) (B : Bs) (σ : L2.St) (ρ : En) (F H : Hp) (v : V) : W → Prop
  | .d x => Dp K F v x
  | .m xs => ∃ a us, v = .ref a ∧ Bes σ ρ F H a us ∧ DpAll K F us xs ∧ B.H0 a = none
def Gots (K : PySem.W.Frag) (B : Bs) (σ : L2.St) (ρ : En) (F H : Hp) : List V → List W → Prop
  | [], [] => True
  | v :: vs, w :: ws => Got K B σ ρ F H v w ∧ (∀ (j : Nat) v' xs ys, w = .m xs → vs[j]? = some v' → ws[j]? = some (.m ys) → v ≠ v') ∧ Gots K B σ ρ F H vs ws
  | _, _ => False
theorem Got.after {B : Bs} {σ : L2.St} {ρ ρ2 : En} {F H F2 H2 : Hp} {v : V} {w : W} (g : Got K B σ ρ F H v w) (s : Same F F2) (R2 : Rel K (bsOf σ ρ F H) σ ρ2 F2 H2) : Got K B σ ρ2 F2 H2 v w := by
  cases w with
  | d x => exact Dpm s g
  | m xs =>
    obtain ⟨a, us, e, b, d, h0⟩ := g
    exact ⟨a, us, e, b.after R2, DpmA s d, h0⟩
theorem Got.base {B : Bs} {σ : L2.St} {ρ ρ2 : En} {F H F2 H2 : Hp} {v : V} {w : W} (R : Rel K B σ ρ F H) (g : Got K (bsOf σ ρ F H) σ ρ2 F2 H2 v w) : Got K B σ ρ2 F2 H2 v w := by
  cases w with
  | d x => exact g
  | m xs =>
    obtain ⟨a, us, e, b, d, h0⟩ := g
    exact ⟨a, us, e, b, d, R.free0 h0⟩
theorem Gots.base {B : Bs} {σ : L2.St} {ρ ρ2 : En} {F H F2 H2 : Hp} (R : Rel K B σ ρ F H) : ∀ {vs : List V} {ws : List W}, Gots K (bsOf σ ρ F H) σ ρ2 F2 H2 vs ws → Gots K B σ ρ2 F2 H2 vs ws
  | [], [], _ => trivial
  | v :: vs, w :: ws, ⟨h1, h2, h3⟩ => ⟨h1.base R, h2, Gots.base R h3⟩
theorem Gots.new {B : Bs} {σ : L2.St} {ρ : En} {F H : Hp} : ∀ {vs : List V} {ws : List W} {j : Nat} {v' : V} {ys : List D}, Gots K B σ ρ F H vs ws → vs[j]? = some v' → ws[j]? = some (.m ys) → ∃ a, v' = .ref a ∧ B.H0 a = none
  | [], [], j, _, _, _, h, _ => by simp at h
  | v :: vs, w :: ws, 0, v', ys, ⟨h1, _, _⟩, e1, e2 => by
    simp at e1 e2
    subst e1 e2
    obtain ⟨a, us, e, b, d, h0⟩ := h1
    exact ⟨a, e, h0⟩
  | v :: vs, w :: ws, j + 1, v', ys, ⟨_, _, h3⟩, e1, e2 => Gots.new (j := j) h3 (by simpa using e1) (by simpa using e2)
theorem it_got {it : Itm} {B : Bs} {σ : L2.St} {ρ : En} {F H : Hp} (R : Rel K B σ ρ F H) {w : W} {ρ' : En} (e : evI it ρ = some (w, ρ')) {Q : VK} (k : ∀ F' H' v, Same F F' → Rel K B σ ρ' F' H' → Got K B σ ρ' F' H' v w → Q v H') : tIm K it σ H Q := by
  cases it with
  | e f =>
    obtain ⟨x, ρ1, e1, e2⟩ := eb_some e
    cases e2
    exact ⟨B, F, ρ, R, x, _, e1, fun F1 H1 v s1 R1 d1 => k F1 H1 v s1 R1 d1⟩
  | n f =>
    obtain ⟨x, ρ1, e1, e2⟩ := eb_some e
    cases e2
    exact ⟨B, F, ρ, R, x, _, e1, fun F1 H1 a us s1 R1 h1 h2 h3 h4 h5 => k F1 H1 _ s1 R1 ⟨a, us, rfl, ⟨h1, h2, h5⟩, h3, h4⟩⟩
/-- the items' readings, one behind another -/
def tIms (K : PySem.W.Frag) : List Itm → TA
  | [] => tNil
  | i :: r => tCons (tIm K i) (tIms K r)
theorem its_got : ∀ (its : List Itm) {B : Bs} {σ : L2.St} {ρ : En} {F H : Hp} (R : Rel K B σ ρ F H) {ws : List W} {ρ' : En} (e : evIs its ρ = some (ws, ρ')) {Q : List V → Hp → Prop} (k : ∀ F' H' vs, Same F F' → Rel K B σ ρ' F' H' → Gots K B σ ρ' F' H' vs ws → Q vs H'), tIms K its σ H Q
  | [], B, σ, ρ, F, H, R, ws, ρ', e, Q, k => by
    cases e
    exact k F H [] (Same.refl _) R trivial
  | it :: r, B, σ, ρ, F, H, R, ws, ρ', e, Q, k => by
    obtain ⟨w, ρ1, e1, e2⟩ := eb_some e
    obtain ⟨ws2, ρ2, e3, e4⟩ := eb_some e2
    cases e4
    refine it_got R e1 fun F1 H1 v s1 R1 g1 => ?_
    refine its_got r R1.rebase e3 fun F2 H2 vs s2 R2 g2 => k F2 H2 (v :: vs) (s1.trans s2) (R1.back R2) ⟨g1.after s2 R2, fun j v' xs ys ew h1 h2 ev => ?_, g2.base R1⟩
    subst ew ev
    obtain ⟨a, us, rfl, b, _, _⟩ := g1
    obtain ⟨a', e5, h0⟩ := Gots.new g2 h1 h2
    cases e5
    rw [show (bsOf σ ρ1 F1 H1).H0 a = H1 a from rfl, b.1] at h0
    cases h0
theorem Got.set {B : Bs} {σ : L2.St} {ρ ρ' : En} {F H : Hp} {i : Nat} {v : V} {w : W} (R : Rel K B σ ρ F H) (g : Got K B σ ρ F H v w) (hp : ∀ p ∈ B.pins, i ≠ p.1) (e : setW i w ρ = some ρ') : Rel K B (σ.set i (some v)) ρ' F H := by
  cases w with
  | d x =>
    obtain ⟨hm, rfl⟩ := bd_some e
    exact R.setD g hm
  | m xs =>
    cases e
    obtain ⟨a, us, rfl, b, d, h0⟩ := g
    exact R.setM d b.1 b.2.1 h0 hp b.2.2
theorem Got.beside {B : Bs} {σ : L2.St} {ρ ρ' : En} {F H : Hp} {i : Nat} {v v' : V} {w w' : W} (R : Rel K B σ ρ F H) (g : Got K B σ ρ F H v' w') (e : setW i w ρ = some ρ') (ne : ∀ xs ys, w = .m xs → w' = .m ys → v ≠ v') : Got K B (σ.set i (some v)) ρ' F H v' w' := by
  cases w' with
  | d x => exact g
  | m ys =>
    obtain ⟨a, us, rfl, b, d, h0⟩ := g
    refine ⟨a, us, rfl, ⟨b.1, b.2.1, fun j zs q q' => ?_⟩, d, h0⟩
    by_cases hj : i = j
    · subst hj
      have hl : i < σ.length := by
        by_cases hl : i < σ.length
        · exact hl
        · rw [List.getElem?_eq_none (by simpa using hl)] at q'; cases q'
      rw [List.getElem?_set_self hl] at q'
      cases q'
      cases w with
      | d x =>
        obtain ⟨hm, rfl⟩ := bd_some e
        rw [List.getElem?_set_self (by rw [R.len]; exact hl)] at q
        cases q
      | m xs => exact ne xs ys rfl rfl rfl
    · rw [List.getElem?_set_ne hj] at q'
      cases w with
      | d x =>
        obtain ⟨hm, rfl⟩ := bd_some e
        rw [List.getElem?_set_ne hj] at q
        exact b.2.2 j zs q q'
      | m xs =>
        cases e
        rw [List.getElem?_set_ne hj] at q
        exact b.2.2 j zs q q'
theorem Gots.beside {B : Bs} {σ : L2.St} {ρ ρ' : En} {F H : Hp} {i : Nat} {v : V} {w : W} (R : Rel K B σ ρ F H) (e : setW i w ρ = some ρ') : ∀ {vs : List V} {ws : List W}, Gots K B σ ρ F H vs ws → (∀ (j : Nat) v' xs ys, w = .m xs → vs[j]? = some v' → ws[j]? = some (.m ys) → v ≠ v') → Gots K B (σ.set i (some v)) ρ' F H vs ws
  | [], [], _, _ => trivial
  | v' :: vs, w' :: ws, ⟨h1, h2, h3⟩, ne => ⟨h1.beside R e fun xs ys e1 e2 => ne 0 v' xs ys e1 rfl (by rw [e2]; rfl), h2, Gots.beside R e h3 fun j v2 xs ys e1 e2 e3 => ne (j + 1) v2 xs ys e1 (by simpa using e2) (by simpa using e3)⟩
def setVs : List Nat → List V → L2.St → L2.St
  | i :: is, v :: vs, σ => setVs is vs (σ.set i (some v))
  | _, _, σ => σ
theorem Gots.set : ∀ (is : List Nat) {B : Bs} {σ : L2.St} {ρ ρ' : En} {F H : Hp} {vs : List V} {ws : List W}, Rel K B σ ρ F H → Gots K B σ ρ F H vs ws → (∀ p ∈ B.pins, p.1 ∉ is) → setWs is ws ρ = some ρ' → is.length = vs.length ∧ Rel K B (setVs is vs σ) ρ' F H
  | [], B, σ, ρ, ρ', F, H, [], [], R, _, _, e => by cases e; exact ⟨rfl, R⟩
  | [], B, σ, ρ, ρ', F, H, [], _ :: _, R, g, _, e => g.elim
  | [], B, σ, ρ, ρ', F, H, _ :: _, [], R, g, _, e => g.elim
  | [], B, σ, ρ, ρ', F, H, _ :: _, _ :: _, R, g, _, e => by cases e
  | i :: is, B, σ, ρ, ρ', F, H, [], [], R, g, _, e => by cases e
  | i :: is, B, σ, ρ, ρ', F, H, [], _ :: _, R, g, _, e => g.elim
  | i :: is, B, σ, ρ, ρ', F, H, _ :: _, [], R, g, _, e => g.elim
  | i :: is, B, σ, ρ, ρ', F, H, v :: vs, w :: ws, R, ⟨h1, h2, h3⟩, hp, e => by
    unfold setWs at e
    split at e
    · rename_i ρ1 e1
      have R1 := h1.set R (fun p hq z => hp p hq (by rw [z]; exact List.mem_cons_self)) e1
      obtain ⟨hl, R2⟩ := Gots.set is R1 (h3.beside R e1 h2) (fun p hq z => hp p hq (List.mem_cons_of_mem _ z)) e
      exact ⟨congrArg (· + 1) hl, R2⟩
    · cases e
theorem w_par {is : List Nat} {its : List Itm} (hi : ∀ i ∈ is, i ∉ ps) {D : Ends} {σ : L2.St} {H : Hp} (h : tS K ps (sPar is its) D σ H) : tIms K its σ H fun vs H1 => is.length = vs.length ∧ D.nx (setVs is vs σ) H1 := by
  obtain ⟨B, F, ρ, R, hp, fl, ρ', e, k⟩ := h
  unfold sPar at e
  split at e
  · rename_i ws ρ1 e1
    cases e2 : setWs is ws ρ1 with
    | none => rw [e2] at e; cases e
    | some ρ2 =>
      rw [e2] at e; cases e
      refine its_got its R e1 fun F1 H1 vs s1 R1 g => ?_
      obtain ⟨hl, R2⟩ := g.set is R1 (fun p hq z => hi _ z (hp p hq)) e2
      exact ⟨hl, k F1 H1 _ s1 R2⟩
  · cases e
theorem spar2 {i j : Nat} {x y : Str} {a b : Expr} {ia ib : Itm} {px py pt pos : Pos} {kt k2 pt2} (hc : X.calm = true) (hN : X.N.Nodup) (hi : X.N[i]? = some x) (hj : X.N[j]? = some y) (hij : i ≠ j) (hx : X.env.scope.names.lookup x = some .local) (hy : X.env.scope.names.lookup y = some .local)
    (hps : ∀ k ∈ [i, j], k ∉ ps) (ha : PE X a (tIm X.K ia)) (hb : PE X b (tIm X.K ib)) (hw : swappedStores [.Tuple [.Name x px, .Name y py] kt pt] (.Tuple [a, b] k2 pt2) X.env = pure (some [x, y]))
    (hs : swapsWithSole [.Tuple [.Name x px, .Name y py] kt pt] (.Tuple [a, b] k2 pt2) pos.line X.env = pure false := by rfl) (s1 : starEach (a :: [b]) X.env = (false, eval a X.env) :: starEach [b] X.env := by rfl) (s2 : starEach [b] X.env = (false, eval b X.env) :: starEach [] X.env := by rfl) :
    PS X (.Assign [.Tuple [.Name x px, .Name y py] kt pt] (.Tuple [a, b] k2 pt2) pos) (tS X.K ps (sPar [i, j] [ia, ib])) := PSw (ps_par hc hN hi hj hij hx hy (pa_cons ha (pa_cons hb pa_nil s2) s1) hw hs) fun D σ H h => by
  have q : tIms X.K [ia, ib] σ H (fun vs H1 => [i, j].length = vs.length ∧ D.nx (setVs [i, j] vs σ) H1) := w_par hps h
  have m : ∀ {t : TA} {Q Q' : List V → Hp → Prop}, True → True := fun _ => trivial
  obtain ⟨B, F, ρ, R, hp, fl, ρ', e, k⟩ := h
  unfold sPar at e
  split at e
  · rename_i ws ρ1 e1
    cases e2 : setWs [i, j] ws ρ1 with
    | none => rw [e2] at e; cases e
    | some ρ2 =>
      rw [e2] at e; cases e
      refine its_got [ia, ib] R e1 fun F1 H1 vs s1 R1 g => ?_
      obtain ⟨hl, R2⟩ := g.set [i, j] R1 (fun p hq z => hps _ z (hp p hq)) e2
      match vs, hl with
      | [v, w], _ => exact ⟨v, w, rfl, k F1 H1 _ s1 R2⟩
  · cases e
theorem spar3 {i j l : Nat} {x y z : Str} {a b c : Expr} {ia ib ic : Itm} {px py pz pt pos : Pos} {kt k2 pt2} (hc : X.calm = true) (hN : X.N.Nodup) (hi : X.N[i]? = some x) (hj : X.N[j]? = some y) (hl : X.N[l]? = some z) (hij : i ≠ j) (hil : i ≠ l) (hjl : j ≠ l)
    (hx : X.env.scope.names.lookup x = some .local) (hy : X.env.scope.names.lookup y = some .local) (hz : X.env.scope.names.lookup z = some .local)
    (hps : ∀ k ∈ [i, j, l], k ∉ ps) (ha : PE X a (tIm X.K ia)) (hb : PE X b (tIm X.K ib)) (hcc : PE X c (tIm X.K ic)) (hw : swappedStores [.Tuple [.Name x px, .Name y py, .Name z pz] kt pt] (.Tuple [a, b, c] k2 pt2) X.env = pure (some [x, y, z]))
    (hs : swapsWithSole [.Tuple [.Name x px, .Name y py, .Name z pz] kt pt] (.Tuple [a, b, c] k2 pt2) pos.line X.env = pure false := by rfl)
    (s1 : starEach (a :: [b, c]) X.env = (false, eval a X.env) :: starEach [b, c] X.env := by rfl) (s2 : starEach (b :: [c]) X.env = (false, eval b X.env) :: starEach [c] X.env := by rfl) (s3 : starEach [c] X.env = (false, eval c X.env) :: starEach [] X.env := by rfl) :
    PS X (.Assign [.Tuple [.Name x px, .Name y py, .Name z pz] kt pt] (.Tuple [a, b, c] k2 pt2) pos) (tS X.K ps (sPar [i, j, l] [ia, ib, ic])) := PSw (ps_par3 hc hN hi hj hl hij hil hjl hx hy hz (pa_cons ha (pa_cons hb (pa_cons hcc pa_nil s3) s2) s1) hw hs) fun D σ H h => by
  obtain ⟨B, F, ρ, R, hp, fl, ρ', e, k⟩ := h
  unfold sPar at e
  split at e
  · rename_i ws ρ1 e1
    cases e2 : setWs [i, j, l] ws ρ1 with
    | none => rw [e2] at e; cases e
    | some ρ2 =>
      rw [e2] at e; cases e
      refine its_got [ia, ib, ic] R e1 fun F1 H1 vs s1 R1 g => ?_
      obtain ⟨hl, R2⟩ := g.set [i, j, l] R1 (fun p hq z => hps _ z (hp p hq)) e2
      match vs, hl with
      | [u, v, w], _ => exact ⟨u, v, w, rfl, k F1 H1 _ s1 R2⟩
  · cases e
/-- the same by a real tuple: names of any kind -/
def gNames : List Nat → TGs
  | [] => gNil
  | i :: r => gCons (gName i) (gNames r)
theorem Gots.grow {B : Bs} {σ : L2.St} {ρ : En} {F H : Hp} {p : Addr} {o : HO} (hn : H p = none) : ∀ {vs : List V} {ws : List W}, Gots K B σ ρ F H vs ws → Gots K B σ ρ F (upd H p o) vs ws
  | [], [], _ => trivial
  | v :: vs, w :: ws, ⟨h1, h2, h3⟩ => by
    refine ⟨?_, h2, Gots.grow hn h3⟩
    cases w with
    | d x => exact h1
    | m xs =>
      obtain ⟨a, us, e, b, d, h0⟩ := h1
      exact ⟨a, us, e, ⟨by rw [upd_ne (ne_of_none b.1 hn)]; exact b.1, b.2⟩, d, h0⟩
theorem names_set : ∀ (is : List Nat) {vs : List V} {σ : L2.St} {H : Hp} {Q : L2.St → Hp → Prop}, is.length = vs.length → Q (setVs is vs σ) H → gNames is vs σ H Q
  | [], [], σ, H, Q, _, q => ⟨rfl, q⟩
  | i :: is, v :: vs, σ, H, Q, hl, q => ⟨v, vs, rfl, names_set is (Nat.succ.inj hl) q⟩
theorem spart {st : Stmt} {is : List Nat} {its : List Itm} (hps : ∀ k ∈ is, k ∉ ps) (hl : fits is.length = true) (h : PS X st (tAsg (tTup (tIms X.K its)) (gTup X.K is.length (gNames is)))) : PS X st (tS X.K ps (sPar is its)) := PSw h fun D σ H h => by
  obtain ⟨B, F, ρ, R, hp, fl, ρ', e, k⟩ := h
  unfold sPar at e
  split at e
  · rename_i ws ρ1 e1
    cases e2 : setWs is ws ρ1 with
    | none => rw [e2] at e; cases e
    | some ρ2 =>
      rw [e2] at e; cases e
      refine its_got its R e1 fun F1 H1 vs s1 R1 g => ?_
      obtain ⟨hlen, _⟩ := g.set is R1 (fun p hq z => hps _ z (hp p hq)) e2
      refine ⟨by rw [← hlen]; exact fits_ok hl, fun p hn => ⟨p, vs, rfl, SqT.of upd_same, hlen.symm, names_set is hlen ?_⟩⟩
      obtain ⟨_, R2⟩ := (g.grow (o := .tup vs) hn).set is (R1.beside hn) (fun p hq z => hps _ z (hp p hq)) e2
      exact k F1 _ _ s1 R2
  · cases e
/-- a tuple of data is unpacked -/
def sTg (f : ES D) (b : Bd) : SS := fun ρ => match f ρ with
  | some (x, ρ1) => (b x ρ1).map fun ρ2 => (.nx, ρ2)
  | none => none
theorem stg {st : Stmt} {f : ES D} {te : TE} {g : TG} {b : Bd} {vs : List Nat} (gk : GOk X.K vs g b) (h : PS X st (tAsg te g)) (hw : ∀ σ H Q, tE X.K f σ H Q → te σ H Q) : PS X st (tS X.K ps (sTg f b)) := PSw h fun D σ H h => by
  obtain ⟨B, F, ρ, R, hp, fl, ρ', e, k⟩ := h
  unfold sTg at e
  split at e
  · rename_i x ρ1 e1
    cases e2 : b x ρ1 with
    | none => rw [e2] at e; cases e
    | some ρ2 =>
      rw [e2] at e; cases e
      exact hw _ _ _ ⟨B, F, ρ, R, x, ρ1, e1, fun F1 H1 v s1 R1 d1 => gk B F1 H1 σ ρ1 v x _ _ R1 d1 e2 fun F2 H2 σ2 s2 R2 _ => k F2 H2 σ2 (s1.trans s2) R2⟩
  · cases e
/-! ### lists that change -/
/-- append, extend: what comes behind -/
def eGrow (i : Nat) (f : ES (List D)) : ES D := eb (eM i) fun _ => eb f fun ys => eb (eM i) fun xs => fun ρ => match fits (xs.length + ys.length) with
  | true => some (.none, ρ.set i (some (.m (xs ++ ys))))
  | false => none
theorem grow_w {B : Bs} {σ : L2.St} {ρ : En} {F H : Hp} (R : Rel K B σ ρ F H) {i : Nat} {xs0 : List D} (e : ρ[i]? = some (some (.m xs0))) : ∃ a, σ[i]? = some (some (.ref a)) := let ⟨a, _, h, _⟩ := R.mad e; ⟨a, h⟩
def tAppend (i : Nat) (te : TE) : TE := tBM X.K "list" rAppend (tVar i) (tCons te tNil)
theorem w_append {i : Nat} {f : ES D} {σ : L2.St} {H : Hp} {Q : VK} (h : tE K (eGrow i (eb f fun x => ep [x])) σ H Q) : tBM K "list" rAppend (tVar i) (tCons (tE K f) tNil) σ H Q := by
  obtain ⟨B, F, ρ, R, z, ρ', e, k⟩ := h
  obtain ⟨x0, ρ0, q0, e1⟩ := eb_some e
  obtain ⟨q1, rfl⟩ := eM_some q0
  obtain ⟨ys, ρ1, e2, e3⟩ := eb_some e1
  obtain ⟨y, ρ2, e4, e5⟩ := eb_some e2
  cases e5
  obtain ⟨xs, ρ3, q2, e6⟩ := eb_some e3
  obtain ⟨qm, rfl⟩ := eM_some q2
  split at e6
  · rename_i hf
    cases e6
    obtain ⟨a, vs0, hv, h1, _⟩ := R.mad q1
    refine ⟨_, hv, .inl ⟨rfl, _, SqL.of h1⟩, B, F, _, R, y, _, e4, fun F1 H1 v s1 R1 d1 => ?_⟩
    obtain ⟨a', vs, h2, h3, h4, h5⟩ := R1.mad qm
    rw [hv] at h2; cases h2
    refine ⟨a, vs, v, rfl, rfl, h3, ?_, ?_⟩
    · have q : vs.length = xs.length := DpAll.len h5
      have q3 := fits_ok hf
      simp at q3
      omega
    · exact k F1 _ _ s1 (R1.chg (DpAll.app h5 (.cons d1 .nil)) qm hv) .non
  · cases e6
theorem w_extend {i : Nat} {f : ES D} {σ : L2.St} {H : Hp} {Q : VK} (h : tE K (eGrow i (eLs f)) σ H Q) : tBM K "list" rExtend (tVar i) (tCons (tE K f) tNil) σ H Q := by
  obtain ⟨B, F, ρ, R, z, ρ', e, k⟩ := h
  obtain ⟨x0, ρ0, q0, e1⟩ := eb_some e
  obtain ⟨q1, rfl⟩ := eM_some q0
  obtain ⟨ys, ρ1, e2, e3⟩ := eb_some e1
  have e4 := eLs_some e2
  obtain ⟨xs, ρ3, q2, e6⟩ := eb_some e3
  obtain ⟨qm, rfl⟩ := eM_some q2
  split at e6
  · rename_i hf
    cases e6
    obtain ⟨a, vs0, hv, h1, _⟩ := R.mad q1
    refine ⟨_, hv, .inl ⟨rfl, _, SqL.of h1⟩, B, F, _, R, _, _, e4, fun F1 H1 v s1 R1 d1 => ?_⟩
    obtain ⟨a', vs, h2, h3, h4, h5⟩ := R1.mad qm
    rw [hv] at h2; cases h2
    cases d1 with
    | lst hs ht =>
      refine ⟨a, _, vs, _, rfl, rfl, h3, R1.sub _ _ hs, ?_, ?_⟩
      · rw [DpAll.len h5, DpAll.len ht]; exact fits_ok hf
      · exact k F1 _ _ s1 (R1.chg (DpAll.app h5 ht) qm hv) .non
  · cases e6
theorem dapp {i : Nat} {e o : Expr} {apos cpos : Pos} {f : ES D} (ho : PE X o (tVar i)) (h : PE X e (tE X.K f)) (hbase : attributeBase o "append" X.env (eval o X.env) = eval o X.env := by rfl)
    (hfew : ((backTo cpos (starEach (e :: []) X.env)).all (fun x => !x.1) && (backToKw cpos (keywordEach [] X.env)).all (fun x => x.1.isSome) && decide ((e :: []).length + ([] : List Keyword).length + (if ([] : List Keyword).isEmpty then 0 else 1) < 30)) = true := by rfl)
    (hline : (apos.endLine == cpos.line) = true := by rfl) (hs : starEach (e :: []) X.env = (false, eval e X.env) :: starEach [] X.env := by rfl) (hplain : (backTo cpos (starEach [] X.env)).any (·.1) = false := by rfl) :
    PE X (.Call (.Attribute o "append" apos) [e] [] cpos) (tE X.K (eGrow i (eb f fun x => ep [x]))) := PEw (pe_bm PySem.F.plainAttrs_list PySem.F.slot_list_append PySem.F.type_list_append mt_append ho (pa_cons h pa_nil hs) hbase hfew hline hs hplain) fun _ _ _ => w_append
theorem dext {i : Nat} {e o : Expr} {apos cpos : Pos} {f : ES D} (ho : PE X o (tVar i)) (h : PE X e (tE X.K f)) (hbase : attributeBase o "extend" X.env (eval o X.env) = eval o X.env := by rfl)
    (hfew : ((backTo cpos (starEach (e :: []) X.env)).all (fun x => !x.1) && (backToKw cpos (keywordEach [] X.env)).all (fun x => x.1.isSome) && decide ((e :: []).length + ([] : List Keyword).length + (if ([] : List Keyword).isEmpty then 0 else 1) < 30)) = true := by rfl)
    (hline : (apos.endLine == cpos.line) = true := by rfl) (hs : starEach (e :: []) X.env = (false, eval e X.env) :: starEach [] X.env := by rfl) (hplain : (backTo cpos (starEach [] X.env)).any (·.1) = false := by rfl) :
    PE X (.Call (.Attribute o "extend" apos) [e] [] cpos) (tE X.K (eGrow i (eLs f))) := PEw (pe_bm PySem.F.plainAttrs_list PySem.F.slot_list_extend PySem.F.type_list_extend mt_extend ho (pa_cons h pa_nil hs) hbase hfew hline hs hplain) fun _ _ _ => w_extend
/-- xs[i] = e -/
def setI (xs : List D) (k : D) (x : D) : Option (List D) := match k with
  | .int i => match ixN xs.length i with
    | some j => some (xs.set j x)
    | none => none
  | _ => none
def sSt (i : Nat) (fe fi : ES D) : SS := fun ρ => match eb fe (fun x => eb (eM i) fun _ => eb fi fun k => eb (eM i) fun xs => eb (eo (setI xs k x)) fun ys => ep ys) ρ with
  | some (ys, ρ1) => some (.nx, ρ1.set i (some (.m ys)))
  | none => none
theorem sst {i : Nat} {st : Stmt} {fe fi : ES D} (h : PS X st (tAsg (tE X.K fe) (L2.gSub (tVar i) (tE X.K fi) rSetL))) : PS X st (tS X.K ps (sSt i fe fi)) := PSw h fun D σ H h => by
  obtain ⟨B, F, ρ, R, hp, fl, ρ', e, k⟩ := h
  unfold sSt at e
  split at e
  · rename_i ys ρ1 e1
    cases e
    obtain ⟨x, ρ2, e2, e3⟩ := eb_some e1
    obtain ⟨x0, ρ3, q0, e4⟩ := eb_some e3
    obtain ⟨q1, rfl⟩ := eM_some q0
    obtain ⟨kx, ρ4, e5, e6⟩ := eb_some e4
    obtain ⟨xs, ρ5, q2, e7⟩ := eb_some e6
    obtain ⟨qm, rfl⟩ := eM_some q2
    obtain ⟨ys', ρ6, e8, e9⟩ := eb_some e7
    obtain ⟨ys2, e10, e11⟩ := eo_some e8
    cases e11
    cases e9
    refine ⟨B, F, ρ, R, x, _, e2, fun F1 H1 v s1 R1 d1 => ?_⟩
    obtain ⟨a, vs0, hv, _⟩ := R1.mad q1
    refine ⟨_, hv, B, F1, _, R1, kx, _, e5, fun F2 H2 u s2 R2 d2 => ?_⟩
    obtain ⟨a', vs, h2, h3, h4, h5⟩ := R2.mad qm
    rw [hv] at h2; cases h2
    unfold setI at e10
    split at e10
    · split at e10
      · rename_i i' j hj
        cases e10
        cases d2
        refine ⟨a, vs, _, j, rfl, rfl, h3, by rw [DpAll.len h5]; exact hj, ?_⟩
        exact k F2 _ _ (s1.trans s2) (R2.chg (DpAll.set (Dpm s2 d1) j h5) qm hv)
      · cases e10
    · cases e10
  · cases e
/-- name op= e on ints -/
def sAug (i : Nat) (g : Int → Int → Int) (f : ES D) : SS := fun ρ => match eb (eV i) (fun x => eb f fun y => eo (gI (fun _ _ => true) g x y)) ρ with
  | some (z, ρ1) => (bd i z ρ1).map fun ρ2 => (.nx, ρ2)
  | none => none
theorem saug {i : Nat} {st : Stmt} {g : Int → Int → Int} {f : ES D} (h : PS X st (tAug i (tE X.K f) (ipI g))) : PS X st (tS X.K ps (sAug i g f)) := PSw h fun D σ H h => by
  obtain ⟨B, F, ρ, R, hp, fl, ρ', e, k⟩ := h
  unfold sAug at e
  split at e
  · rename_i z ρ1 e1
    cases e2 : bd i z ρ1 with
    | none => rw [e2] at e; cases e
    | some ρ2 =>
      rw [e2] at e; cases e
      obtain ⟨x, ρ3, e3, e4⟩ := eb_some e1
      obtain ⟨q1, rfl⟩ := eV_some e3
      obtain ⟨y, ρ4, e5, e6⟩ := eb_some e4
      obtain ⟨z', e7, e8⟩ := eo_some e6
      cases e8
      obtain ⟨v, hv, dv⟩ := R.slot i _ q1
      refine ⟨v, hv, B, F, _, R, y, _, e5, fun F1 H1 u s1 R1 d1 => ?_⟩
      unfold gI at e7
      split at e7
      · simp only at e7
        cases e7
        cases (show Dp X.K F v _ from dv)
        cases d1
        obtain ⟨hm, rfl⟩ := bd_some e2
        exact ⟨_, _, rfl, rfl, k F1 H1 _ s1 (R1.setD (.int _) hm)⟩
      · cases e7
  · cases e
/-- a < b < c -/
def eCh (g g' : D → D → Option D) (fa fb fc : ES D) : ES D := eb fa fun x => eb fb fun y => eb (eo (g x y)) fun z => eb (eo (bD z)) fun t => match t with
  | true => eb fc fun w => eo (g' y w)
  | false => ep (.bool false)
theorem w_ch {r r' : R2} {g g' : D → D → Option D} (o : Op2 K r g) (o' : Op2 K r' g') {fa fb fc : ES D} {σ : L2.St} {H : Hp} {Q : VK} (h : tE K (eCh g g' fa fb fc) σ H Q) : tChain r r' (tE K fa) (tE K fb) (tB K fc) σ H Q := by
  obtain ⟨B, F, ρ, R, z, ρ', e, k⟩ := h
  obtain ⟨x, ρ1, e1, e2⟩ := eb_some e
  obtain ⟨y, ρ2, e3, e4⟩ := eb_some e2
  obtain ⟨z1, ρ3, e5, e6⟩ := eb_some e4
  obtain ⟨z2, e7, e8⟩ := eo_some e5
  cases e8
  obtain ⟨t, ρ4, e9, e10⟩ := eb_some e6
  obtain ⟨t', e11, e12⟩ := eo_some e9
  cases e12
  obtain rfl := bD_some e11
  refine ⟨B, F, ρ, R, x, _, e1, fun F1 H1 v s1 R1 d1 => ⟨B, F1, _, R1, y, _, e3, fun F2 H2 u s2 R2 d2 => ?_⟩⟩
  refine o F2 H2 v u x y _ _ R2.sub (.inl (Dpm s2 d1)) (.inl d2) e7 fun F3 H3 w gr d3 => ?_
  obtain ⟨R3, s3⟩ := R2.gr gr
  cases d3
  refine ⟨t, rfl, ?_⟩
  cases t with
  | false =>
    cases e10
    exact iteF (k F3 H3 _ (s1.trans (s2.trans s3)) R3 (.bl _))
  | true =>
    obtain ⟨c, ρ5, e13, e14⟩ := eb_some e10
    obtain ⟨c', e15, e16⟩ := eo_some e14
    cases e16
    exact iteT ⟨B, F3, _, R3, c, _, e13, fun F4 H4 w' s4 R4 b4 => o' F4 H4 u w' y c z Q R4.sub (.inl (Dpm (s3.trans s4) d2)) b4 e15 (end1 (s1.trans (s2.trans (s3.trans s4))) R4 k)⟩
theorem dch {op op' : CmpOp} {a b c : Expr} {pos : Pos} {r r' : R2} {g g' : D → D → Option D} {fa fb fc : ES D} (o : Op2 X.K r g) (o' : Op2 X.K r' g') (h : OpR X (compareOp op) r) (h' : OpR X (compareOp op') r') (ha : PE X a (tE X.K fa)) (hb : PE X b (tE X.K fb)) (hc : PE X c (tB X.K fc)) (hm : lastMarks [op, op'] [b, c] = false := by with_unfolding_all rfl) :
    PE X (.Compare a [op, op'] [b, c] pos) (tE X.K (eCh g g' fa fb fc)) := PEw (pe_chain h h' ha hb hc hm) fun _ _ _ => w_ch o o'
end
end CS
set_option Elab.async false
set_option linter.all false
set_option maxRecDepth 100000
set_option maxHeartbeats 4000000
set_option autoImplicit false
namespace CS
open PySem PySem.Spec PyProof.Rows L2
/-! ### zip, enumerate -/
def zipD : List D → List D → List D
  | x :: xs, y :: ys => .tuple [x, y] :: zipD xs ys
  | _, _ => []
theorem zipD_len : ∀ xs ys : List D, (zipD xs ys).length ≤ xs.length ∧ (zipD xs ys).length ≤ ys.length ∧ (xs.length ≤ (zipD xs ys).length ∨ ys.length ≤ (zipD xs ys).length)
  | [], [] => ⟨Nat.le_refl _, Nat.le_refl _, .inl (Nat.le_refl _)⟩
  | [], _ :: _ => ⟨Nat.le_refl _, Nat.zero_le _, .inl (Nat.le_refl _)⟩
  | _ :: _, [] => ⟨Nat.zero_le _, Nat.le_refl _, .inr (Nat.le_refl _)⟩
  | x :: xs, y :: ys => by
    obtain ⟨h1, h2, h3⟩ := zipD_len xs ys
    exact ⟨Nat.succ_le_succ h1, Nat.succ_le_succ h2, h3.elim (fun h => .inl (Nat.succ_le_succ h)) fun h => .inr (Nat.succ_le_succ h)⟩
theorem zipD_get : ∀ {xs ys : List D} {i : Nat} {z : D}, (zipD xs ys)[i]? = some z → ∃ x y, xs[i]? = some x ∧ ys[i]? = some y ∧ z = .tuple [x, y]
  | [], [], _, _, h => by simp [zipD] at h
  | [], _ :: _, _, _, h => by simp [zipD] at h
  | _ :: _, [], _, _, h => by simp [zipD] at h
  | x :: xs, y :: ys, 0, z, h => by
    simp [zipD] at h
    exact ⟨x, y, rfl, rfl, h.symm⟩
  | x :: xs, y :: ys, i + 1, z, h => by
    obtain ⟨x', y', h1, h2, h3⟩ := zipD_get (xs := xs) (ys := ys) (i := i) (z := z) (by simpa [zipD] using h)
    exact ⟨x', y', by simpa using h1, by simpa using h2, h3⟩
def enuD : Nat → List D → List D
  | _, [] => []
  | n, x :: xs => .tuple [.int (n : Int), x] :: enuD (n + 1) xs
theorem enuD_len : ∀ (xs : List D) (n : Nat), (enuD n xs).length = xs.length
  | [], _ => rfl
  | x :: xs, n => congrArg (· + 1) (enuD_len xs (n + 1))
theorem enuD_get : ∀ {xs : List D} {n i : Nat} {z : D}, (enuD n xs)[i]? = some z → ∃ x, xs[i]? = some x ∧ z = .tuple [.int ((n + i : Nat) : Int), x]
  | [], _, _, _, h => by simp [enuD] at h
  | x :: xs, n, 0, z, h => by
    simp [enuD] at h
    exact ⟨x, rfl, by simpa using h.symm⟩
  | x :: xs, n, i + 1, z, h => by
    obtain ⟨x', h1, h2⟩ := enuD_get (xs := xs) (n := n + 1) (i := i) (z := z) (by simpa [enuD] using h)
    exact ⟨x', by simpa using h1, by rw [h2, show n + 1 + i = n + (i + 1) from by omega]⟩
section
variable {K : PySem.W.Frag} {X : Cx} {ps : List Nat}
theorem pair_dp {F H : Hp} {T : Addr} {x y : V} {a b : D} (s : Same F H) (hn : H T = none) (dx : Dp K F x a) (dy : Dp K F y b) : ∃ F', Gr F H F' (upd H T (.tup [x, y])) ∧ Dp K F' (.ref T) (.tuple [a, b]) := by
  have sF : Same F (upd F T (.tup [x, y])) := same_new (s.free hn)
  exact ⟨_, .one hn, .tup (SqT.of upd_same) (.cons (Dpm sF dx) (.cons (Dpm sF dy) .nil))⟩
theorem wk_zipL {a b : Addr} {us vs : List V} {xs ys : List D} {F0 : Hp} (ha : F0 a = some (.lst us)) (hb : F0 b = some (.lst vs)) (da : DpAll K F0 us xs) (db : DpAll K F0 vs ys) : Wk K (Itz K a b) (zipD xs ys) F0 := fun F H s t => by
  have qa : SqL K H a us := SqL.of (t _ _ (s _ _ ha))
  have qb : SqL K H b vs := SqL.of (t _ _ (s _ _ hb))
  obtain ⟨l1, l2, l3⟩ := zipD_len xs ys
  refine ⟨fun i z e => ?_, us, vs, qa, qb, by rw [DpAll.len da, DpAll.len db]; exact l3⟩
  obtain ⟨x, y, h1, h2, rfl⟩ := zipD_get e
  obtain ⟨u, e1, d1⟩ := DpAll.get da h1
  obtain ⟨v, e2, d2⟩ := DpAll.get db h2
  refine ⟨⟨us, vs, u, v, qa, qb, e1, e2⟩, fun w H' y' => ?_⟩
  obtain ⟨T, u', v', rfl, hn, rfl, f1, f2⟩ := y'
  have g1 := f1 us qa
  have g2 := f2 vs qb
  rw [e1] at g1; cases g1
  rw [e2] at g2; cases g2
  exact pair_dp t hn (Dpm s d1) (Dpm s d2)
theorem wk_zipT {a b : Addr} {us vs : List V} {xs ys : List D} {F0 : Hp} (ha : SqT K F0 a us) (hb : SqT K F0 b vs) (da : DpAll K F0 us xs) (db : DpAll K F0 vs ys) : Wk K (RZ.ItzT K a b) (zipD xs ys) F0 := fun F H s t => by
  have qa : SqT K H a us := CS.Same.seqT (s.trans t) ha
  have qb : SqT K H b vs := CS.Same.seqT (s.trans t) hb
  obtain ⟨l1, l2, l3⟩ := zipD_len xs ys
  refine ⟨fun i z e => ?_, us, vs, qa, qb, by rw [DpAll.len da, DpAll.len db]; exact l3⟩
  obtain ⟨x, y, h1, h2, rfl⟩ := zipD_get e
  obtain ⟨u, e1, d1⟩ := DpAll.get da h1
  obtain ⟨v, e2, d2⟩ := DpAll.get db h2
  refine ⟨⟨us, vs, u, v, qa, qb, e1, e2⟩, fun w H' y' => ?_⟩
  obtain ⟨T, u', v', rfl, hn, rfl, f1, f2⟩ := y'
  have g1 := f1 us qa
  have g2 := f2 vs qb
  rw [e1] at g1; cases g1
  rw [e2] at g2; cases g2
  exact pair_dp t hn (Dpm s d1) (Dpm s d2)
theorem wk_enum {a : Addr} {us : List V} {xs : List D} {F0 : Hp} (ha : F0 a = some (.lst us)) (da : DpAll K F0 us xs) : Wk K (Ite K a) (enuD 0 xs) F0 := fun F H s t => by
  have qa : SqL K H a us := SqL.of (t _ _ (s _ _ ha))
  refine ⟨fun i z e => ?_, us, qa, by rw [enuD_len, DpAll.len da]; exact Nat.le_refl _⟩
  obtain ⟨x, h1, rfl⟩ := enuD_get e
  obtain ⟨u, e1, d1⟩ := DpAll.get da h1
  refine ⟨⟨us, u, qa, e1⟩, fun w H' y' => ?_⟩
  obtain ⟨T, u', rfl, hn, rfl, f1⟩ := y'
  have g1 := f1 us qa
  rw [e1] at g1; cases g1
  rw [Nat.zero_add]
  exact pair_dp t hn (.int _) (Dpm s d1)
def zipG : List D → Option (List D)
  | [.list xs, .list ys] => some (zipD xs ys)
  | [.tuple xs, .tuple ys] => some (zipD xs ys)
  | _ => none
def enuG : List D → Option (List D)
  | [.list xs] => some (enuD 0 xs)
  | _ => none
theorem izip {e e2 : Expr} {p pos tpos : Pos} {elts : List Expr} {kk : Nat} {f : ES (List D)} (hg : Gl X "zip") (hm : X.mg "zip" = none) (ha : PA X [e, e2] (tAs X.K f)) (hs : starEach [e, e2] X.env = (false, eval e X.env) :: starEach [e2] X.env := by rfl) (hpl : (backTo pos (starEach [e2] X.env)).any (·.1) = false := by rfl) :
    PI X (.Tuple elts kk tpos) (.Call (.Name "zip" p) [e, e2] [] pos) (tI X.K (eAs zipG f)) := PIw (RZ.pi_zipA hg hm ha hs hpl) fun σ H R q => by
  obtain ⟨B, F, ρ, Rl, xs, ρ', e, k⟩ := q
  obtain ⟨as, ρ1, e1, e2⟩ := eb_some e
  obtain ⟨ys, e3, e4⟩ := eo_some e2
  cases e4
  refine ⟨B, F, ρ, Rl, as, _, e1, fun F' H' v s R' d => ?_⟩
  unfold zipG at e3
  split at e3
  · cases e3
    cases d with
    | cons dx dr =>
      cases dr with
      | cons dy dr =>
        cases dr
        cases dx with
        | lst hx tx =>
          cases dy with
          | lst hy ty => exact ⟨_, _, _, _, rfl, .inl ⟨SqL.of (R'.sub _ _ hx), SqL.of (R'.sub _ _ hy), k F' H' _ s R' (wk_zipL hx hy tx ty)⟩⟩
  · cases e3
    cases d with
    | cons dx dr =>
      cases dr with
      | cons dy dr =>
        cases dr
        cases dx with
        | tup hx tx =>
          cases dy with
          | tup hy ty => exact ⟨_, _, _, _, rfl, .inr ⟨CS.Same.seqT R'.sub hx, CS.Same.seqT R'.sub hy, k F' H' _ s R' (wk_zipT hx hy tx ty)⟩⟩
  · cases e3
theorem ienum {e : Expr} {p pos tpos : Pos} {elts : List Expr} {kk : Nat} {f : ES (List D)} (hg : Gl X "enumerate") (hm : X.mg "enumerate" = none) (ha : PA X [e] (tAs X.K f)) (hs : starEach [e] X.env = [(false, eval e X.env)] := by rfl) :
    PI X (.Tuple elts kk tpos) (.Call (.Name "enumerate" p) [e] [] pos) (tI X.K (eAs enuG f)) := PIw (pi_enum hg hm ha hs) fun σ H R q => by
  obtain ⟨B, F, ρ, Rl, xs, ρ', e, k⟩ := q
  obtain ⟨as, ρ1, e1, e2⟩ := eb_some e
  obtain ⟨ys, e3, e4⟩ := eo_some e2
  cases e4
  refine ⟨B, F, ρ, Rl, as, _, e1, fun F' H' v s R' d => ?_⟩
  unfold enuG at e3
  split at e3
  · cases e3
    cases d with
    | cons dx dr =>
      cases dr
      cases dx with
      | lst hx tx => exact ⟨_, _, rfl, SqL.of (R'.sub _ _ hx), k F' H' _ s R' (wk_enum hx tx)⟩
  · cases e3
/-! ### list(range(..)) -/
def rgl (a b : Int) : Option (List D) := match in62 a && (in62 b && fits (b - a).toNat) with
  | true => some (rgD a (b - a).toNat)
  | false => none
def rgL1 : D → Option (List D)
  | .int j => rgl 0 j
  | _ => none
def rgL2 : D → D → Option (List D)
  | .int i, .int j => rgl i j
  | _, _ => none
theorem rgl_v {a b : Int} {zs : List D} (h : rgl a b = some zs) : RgOk a b ∧ ∀ F, DpAll K F (rgV a b) zs := by
  unfold rgl at h
  split at h
  · rename_i q
    rw [Bool.and_eq_true, Bool.and_eq_true] at q
    cases h
    obtain ⟨q1, q2⟩ := in62_ok q.1
    obtain ⟨q3, q4⟩ := in62_ok q.2.1
    have q5 := fits_ok q.2.2
    refine ⟨⟨q1, q2, q3, q4, ?_⟩, fun F => ?_⟩
    · first | exact q5 | (rw [sizeLine_eq] at q5; simpa using q5) | (rw [sizeLine_eq] at q5; omega)
    · have key : ∀ (n : Nat) (lo : Int), DpAll K F ((List.range n).map fun i => V.int (lo + (i : Nat))) (rgD lo n) := by
        intro n
        induction n with
        | zero => intro lo; exact .nil
        | succ n ih =>
          intro lo
          rw [List.range_succ_eq_map, List.map_cons, List.map_map]
          have := ih (lo + 1)
          have e : ((List.range n).map fun i => V.int (lo + 1 + (i : Nat))) = (List.range n).map ((fun i : Nat => V.int (lo + (i : Nat))) ∘ Nat.succ) := by
            refine List.map_congr_left fun i _ => ?_
            show V.int _ = V.int _
            congr 1
            simp only [Nat.succ_eq_add_one]
            push_cast
            omega
          rw [e] at this
          refine .cons ?_ this
          have : V.int (lo + (0 : Nat)) = V.int lo := by simp
          rw [this]
          exact .int _
      exact key _ a
  · cases h
theorem dlrg1 {a : Expr} {p p2 pos pos2 : Pos} {f : ES D} (hc : X.calm = true) (hg : Gl X "list") (hm : X.mg "list" = none) (hg2 : Gl X "range") (hm2 : X.mg "range" = none) (h : PE X a (tB X.K f)) (na : starEach [.Call (.Name "range" p2) [a] [] pos2] X.env = (false, eval (.Call (.Name "range" p2) [a] [] pos2) X.env) :: starEach [] X.env := by rfl) (nb : starEach [a] X.env = (false, eval a X.env) :: starEach [] X.env := by rfl) :
    PE X (.Call (.Name "list" p) [.Call (.Name "range" p2) [a] [] pos2] [] pos) (tN X.K (e1 rgL1 f)) := PEw (pe_listRg hc hg hm (prg_1 hg2 hm2 h nb) na) fun σ H Q q => by
  refine w_N1 (g := rgL1) (r := fun x H1 Q => ∃ n, x = .int n ∧ RgOk 0 n ∧ ∀ q, H1 q = none → Q (.ref q) (upd H1 q (.lst (rgV 0 n)))) (fun F H v x z Q s b e k => ?_) q
  unfold rgL1 at e
  split at e
  · obtain ⟨h1, h2⟩ := rgl_v (K := X.K) e
    exact ⟨_, b.int, h1, fun q hq => k q _ hq (h2 F)⟩
  · cases e
/-- xs.remove(k) of a list of ints, k there -/
def rmI (xs : List D) (y : D) : Option (List D) := match intsD xs, y with
  | some is, .int k => match is.contains k with
    | true => some ((is.erase k).map PyData.int)
    | false => none
  | _, _ => none
def eRem (i : Nat) (f : ES D) : ES D := eb (eM i) fun _ => eb f fun y => eb (eM i) fun xs => fun ρ => match rmI xs y with
  | some ys => some (.none, ρ.set i (some (.m ys)))
  | none => none
theorem drem {i : Nat} {e o : Expr} {apos cpos : Pos} {f : ES D} (hc : X.calm = true) (ho : PE X o (tVar i)) (h : PE X e (tE X.K f)) (hbase : attributeBase o "remove" X.env (eval o X.env) = eval o X.env := by rfl)
    (hfew : ((backTo cpos (starEach [e] X.env)).all (fun x => !x.1) && (backToKw cpos (keywordEach [] X.env)).all (fun x => x.1.isSome) && decide (([e] : List Expr).length + ([] : List Keyword).length + (if ([] : List Keyword).isEmpty then 0 else 1) < 30)) = true := by rfl)
    (hline : (apos.endLine == cpos.line) = true := by rfl) (hs : starEach [e] X.env = (false, eval e X.env) :: starEach [] X.env := by rfl) (hplain : (backTo cpos (starEach [] X.env)).any (·.1) = false := by rfl) :
    PE X (.Call (.Attribute o "remove" apos) [e] [] cpos) (tE X.K (eRem i f)) := PEw (pe_remX (W := fun _ _ _ _ => False) hc (fun u s' ⟨a, B, sI, pins, σ, H, cls, d, e, I, nb, up, sky, na, os, ag, w⟩ => w.elim) ho h hbase hfew hline hs hplain) fun σ H Q q => by
  obtain ⟨B, F, ρ, R, z, ρ', e, k⟩ := q
  obtain ⟨x0, ρ0, q0, e1⟩ := eb_some e
  obtain ⟨q1, rfl⟩ := eM_some q0
  obtain ⟨y, ρ1, e2, e3⟩ := eb_some e1
  obtain ⟨xs, ρ3, q2, e6⟩ := eb_some e3
  obtain ⟨qm, rfl⟩ := eM_some q2
  cases er : rmI xs y with
  | none => simp only [er] at e6; cases e6
  | some ys =>
    simp only [er] at e6
    cases e6
    obtain ⟨a, vs0, hv, h1, _⟩ := R.mad q1
    refine ⟨_, hv, .inl ⟨rfl, _, SqL.of h1⟩, B, F, _, R, y, _, e2, fun F1 H1 v s1 R1 d1 => ?_⟩
    obtain ⟨a', vs, h2, h3, h4, h5⟩ := R1.mad qm
    rw [hv] at h2; cases h2
    unfold rmI at er
    split at er
    · rename_i is kk hi
      split at er
      · rename_i hk
        cases er
        obtain rfl := intsD_some hi
        obtain rfl := h5.vints
        cases d1
        refine ⟨a, is, kk, rfl, rfl, h3, fun _ => ?_, fun hn => absurd (List.contains_iff_mem.mp hk) hn⟩
        exact k F1 _ _ s1 (R1.chg (DpAll.ints _) qm hv) .non
      · cases er
    · cases er
/-! ### any of a list of ints -/
def anyG : D → Option D
  | .list xs => match intsD xs with
    | some is => some (.bool (is.any fun i => i != 0))
    | none => none
  | _ => none
def rAnyI (K : PySem.W.Frag) : List V → Hp → VK → Prop := fun vs H Q => ∃ (a : Addr) (ns : List Int), vs = [V.ref a] ∧ SqL K H a (ns.map V.int) ∧ Q (.bl (ns.any fun i => i != 0)) H
theorem truth_ints {prog : Program} {w : World} {A : Around} {ns : List Int} {its : List Value} (e : IntsAre its ns) : TruthOf prog w A (fun i v => its.toArray[i]? = some v) (fun i => (ns.getD i 0) != 0) := fun i v s Q E hv hq => by
  have hv' : its[i]? = some v := by simpa using hv
  have key : ∀ {its : List Value} {ns : List Int} {i : Nat} {v : Value}, IntsAre its ns → its[i]? = some v → ∃ t, v = .int (ns.getD i 0) t := by
    intro its ns i v h
    induction h generalizing i with
    | nil => intro q; simp at q
    | cons n t r ih =>
      intro q
      cases i with
      | zero => simp at q; exact ⟨t, by simpa using q.symm⟩
      | succ i => obtain ⟨t', h⟩ := ih (i := i) (by simpa using q); exact ⟨t', by simpa using h⟩
  obtain ⟨t, rfl⟩ := key e hv'
  exact PyProof.Rows.truthy_int hq
theorem any_rangeI : ∀ ns : List Int, ((List.range ns.length).any fun i => (ns.getD i 0) != 0) = ns.any fun i => i != 0
  | [] => rfl
  | b :: bs => by
    rw [List.length_cons, List.range_succ_eq_map, List.any_cons, List.any_map, List.any_cons, ← any_rangeI bs]
    rfl
theorem cr_anyI (hc : X.calm = true) : CallR X (.builtin "any") (rAnyI X.K) := fun pins s σ H vs us Q I r h => by
  obtain ⟨a, ns, rfl, hs, q⟩ := h
  obtain ⟨its, rv, hl, _⟩ := I.list hs
  obtain ⟨u, rfl, ru⟩ := Vals.one r
  cases ru
  have hb : IntsAre its ns := intsAre_of rv
  have hn : its.length = ns.length := by rw [← rv.length, List.length_map]
  refine call_any_walk (iter_any hl.isList fun s2 e2 st hne => ?_)
  subst e2
  refine ⟨_, _, _, _, _, _, _, rfl, Walks.list (A := X.A.in1) (I.ok.hd hc) _ a hne its.toArray, st, truth_ints hb, fun h' tk hk => ⟨.bl _, H, I.kept fun b o eo => hk b o (fun hm => ?_) (Heap.get?_push_of_some _ eo), ?_, q⟩⟩
  · simp only [List.mem_cons, List.not_mem_nil, or_false] at hm
    subst hm
    exact Nat.lt_irrefl _ (Heap.lt_size eo)
  · rw [← any_rangeI, List.size_toArray, hn]
    rfl
theorem o_anyI : Op1 K (fun v H Q => rAnyI K [v] H Q) anyG := fun F H v x z Q s b e k => by
  unfold anyG at e
  split at e
  · split at e
    · rename_i ns h
      cases e
      obtain rfl := intsD_some h
      obtain ⟨a, vs, rfl, h1, d1⟩ := b.list s
      obtain rfl := d1.vints
      exact ⟨a, ns, rfl, SqL.of h1, k F H _ .refl (.bl _)⟩
    · cases e
  · cases e
end
end CS
set_option Elab.async false
set_option linter.all false
set_option maxRecDepth 100000
set_option maxHeartbeats 4000000
set_option autoImplicit false
namespace CS
open PySem PySem.W PySem.Spec PyProof.Rows L2
/-! ### comprehensions: forms -/
section
variable {K : PySem.W.Frag} {X : Cx}
section
variable {elt tg iter tg1 iter1 : Expr} {ifs ifs1 : List Expr} {scope : Scope} {own : List (Str × Nat)} {pos : Pos} {src src1 : ES (List D)} {b b1 : Bd} {t t1 : ES Bool} {el : ES D} {g g1 : TG} {tt tt1 : TT} {vs1 : List Nat} {i : Nat}
theorem dlcM (hc : X.calm = true) (hN : X.N.Nodup) (hi : PE X iter (tVar i)) (ok : BlkOk X.N X.env.scope scope own)
    (hg : ∀ (s : Shared) (H : Hp) (C : Addr) (cl : List (Str × Addr)) (fp : List Addr), PG (X.blk s H scope (compEnvC scope cl C X.env) fp) tg g) (gk : GOk X.K (own.map (·.2)) g b)
    (ht : ∀ (s : Shared) (H : Hp) (C : Addr) (cl : List (Str × Addr)) (fp : List Addr), PTs (X.blk s H scope (compEnvC scope cl C X.env) fp) ifs tt) (hw : ∀ σ H Q, tT X.K t σ H Q → tt σ H Q)
    (he : ∀ (s : Shared) (H : Hp) (C : Addr) (cl : List (Str × Addr)) (fp : List Addr), PE (X.blk s H scope (compEnvC scope cl C X.env) fp) elt (tE X.K el)) (hs : ∀ x, foldedSetIterable iter X.env x = pure x := by intro _; rfl) :
    PE X (.ListComp elt [⟨tg, iter, ifs, 0⟩] scope pos) (tN X.K (eLcM (own.map (·.2)) i b t el)) := PEw (pe_lc hc hN (pi_list hi) ok hg ht he hs) fun _ _ _ => w_lcM gk hw
theorem dlc2 (hc : X.calm = true) (hN : X.N.Nodup) (hi : PI X tg iter (tI X.K src)) (ok : BlkOk X.N X.env.scope scope own) (hv : ∀ i ∈ vs1, i ∈ own.map (·.2))
    (hg : ∀ (s : Shared) (H : Hp) (C : Addr) (cl : List (Str × Addr)) (fp : List Addr), PG (X.blk s H scope (compEnvC scope cl C X.env) fp) tg g) (gk : GOk X.K (own.map (·.2)) g b)
    (ht : ∀ (s : Shared) (H : Hp) (C : Addr) (cl : List (Str × Addr)) (fp : List Addr), PTs (X.blk s H scope (compEnvC scope cl C X.env) fp) ifs tt) (hw : ∀ σ H Q, tT X.K t σ H Q → tt σ H Q)
    (hi1 : ∀ (s : Shared) (H : Hp) (C : Addr) (cl : List (Str × Addr)) (fp : List Addr), PI (X.blk s H scope (compEnvC scope cl C X.env) fp) tg1 iter1 (tI X.K src1))
    (hg1 : ∀ (s : Shared) (H : Hp) (C : Addr) (cl : List (Str × Addr)) (fp : List Addr), PG (X.blk s H scope (compEnvC scope cl C X.env) fp) tg1 g1) (gk1 : GOk X.K vs1 g1 b1)
    (ht1 : ∀ (s : Shared) (H : Hp) (C : Addr) (cl : List (Str × Addr)) (fp : List Addr), PTs (X.blk s H scope (compEnvC scope cl C X.env) fp) ifs1 tt1) (hw1 : ∀ σ H Q, tT X.K t1 σ H Q → tt1 σ H Q)
    (he : ∀ (s : Shared) (H : Hp) (C : Addr) (cl : List (Str × Addr)) (fp : List Addr), PE (X.blk s H scope (compEnvC scope cl C X.env) fp) elt (tE X.K el)) (hs : ∀ x, foldedSetIterable iter X.env x = pure x := by intro _; rfl) (hs1 : ∀ env x, foldedSetIterable iter1 env x = pure x := by intro _ _; rfl) :
    PE X (.ListComp elt [⟨tg, iter, ifs, 0⟩, ⟨tg1, iter1, ifs1, 0⟩] scope pos) (tN X.K (eLc2 (own.map (·.2)) vs1 src b t src1 b1 t1 el)) := PEw (pe_lc2 hc hN hi ok hv hg ht hi1 hg1 ht1 he hs hs1) fun _ _ _ => w_lc2 hv gk hw gk1 hw1
end
/-! ### sorted -/
def tupNe : D → Bool
  | .tuple (_ :: _) => true
  | _ => false
def notTup : D → Bool
  | .none => false
  | .tuple _ => false
  | _ => true
def sortOk (ds : List D) : Bool := (ds.all fun d => ds.all fun d' => alike d d') && ((ds.all tupNe || ds.all notTup) && (PyData.canLayAll0 ds && (ds.all fun d => decide (d.depth ≤ 32))))
def srt (ds : List D) : List D := ds.mergeSort (dataLe false id)
def gSort : D → Option (List D)
  | .list xs => match sortOk xs && fits xs.length with
    | true => some (srt xs)
    | false => none
  | _ => none
/-- sorted(xs) of data: the items in their order -/
def rSrt (K : PySem.W.Frag) : List V → Hp → VK → Prop := fun vs H Q => ∃ (a : Addr) (us : List V) (ds : List D), vs = [V.ref a] ∧ SqL K H a us ∧ L2.DpAll K H us ds ∧ sortOk ds = true ∧ ds.length ≤ sizeLine ∧
  ∀ p (zs : List (V × D)), H p = none → zs.Perm (us.zip ds) → zs.map (·.2) = srt ds → Q (.ref p) (upd H p (.lst (zs.map (·.1))))
theorem each_zip {R : Value → V → Prop} : ∀ {us : List Value} {vs : List V} {ds : List D}, Paired (fun v u => R u v) vs us → vs.length = ds.length → EachIs (fun u (z : V × D) => R u z.1) us (vs.zip ds)
  | [], [], [], _, _ => .nil
  | u :: us, v :: vs, d :: ds, .cons r t, h => .cons r (each_zip t (Nat.succ.inj h))
theorem zip_snd : ∀ {vs : List V} {ds : List D}, vs.length = ds.length → (vs.zip ds).map (·.2) = ds
  | [], [], _ => rfl
  | v :: vs, d :: ds, h => by simp [zip_snd (Nat.succ.inj h)]
theorem dpl_len {H : Hp} : ∀ {vs : List V} {xs : List D}, L2.DpAll K H vs xs → vs.length = xs.length
  | _, _, .nil => rfl
  | _, _, .cons _ t => congrArg (· + 1) (dpl_len t)
theorem each_vals : ∀ {zs : List (V × D)} {out : List Value}, EachIs (fun u (z : V × D) => RelV z.1 u) out zs → Vals (zs.map (·.1)) out
  | [], [], _ => .nil
  | z :: zs, u :: out, .cons r t => .cons r (each_vals t)
theorem cr_srt (hu : X.A.units + 64 < cLine) : CallR X (.builtin "sorted") (rSrt X.K) := fun pins s σ H vs us0 Q I r h => by
  obtain ⟨a, us, ds, rfl, hs, hd, ok, hz, q⟩ := h
  obtain ⟨its, rv, hl, _⟩ := I.list hs
  obtain ⟨u, rfl, ru⟩ := Vals.one r
  cases ru
  unfold sortOk at ok
  rw [Bool.and_eq_true, Bool.and_eq_true, Bool.and_eq_true, Bool.or_eq_true] at ok
  obtain ⟨o1, o2, o3, o4⟩ := ok
  rw [List.all_eq_true] at o1 o4
  have hal : AllAlike ds := fun d hd d' hd' => List.all_eq_true.mp (o1 d hd) d' hd'
  have hso : Sortable ds := by
    rcases o2 with o2 | o2
    · refine .inl fun d hd => ?_
      have := List.all_eq_true.mp o2 d hd
      cases d with
      | tuple xs =>
        cases xs with
        | nil => cases this
        | cons x r => exact ⟨x, r, rfl⟩
      | _ => cases this
    · refine .inr fun d hd => ?_
      have := List.all_eq_true.mp o2 d hd
      cases d with
      | none => cases this
      | tuple xs => cases this
      | _ => exact ⟨by simp, by simp⟩
  have hlen := dpl_len hd
  have e := each_zip (R := fun u v => RelV v u) rv hlen
  have hsn := zip_snd hlen
  obtain ⟨as, rd⟩ := L2.Dp.readsAll I ds us its hd rv
  have er0 : EachIs (fun v d => ∃ as, Reads s.heap v d as) its ds := readsAll_each id (by rw [List.map_id]; exact rd)
  have er : EachIs (fun v (z : V × D) => ∃ as, Reads s.heap v z.2 as) its (us.zip ds) := by
    have key : ∀ {its : List Value} {us : List V} {ds : List D}, us.length = ds.length → EachIs (fun v d => ∃ as, Reads s.heap v d as) its ds → EachIs (fun v (z : V × D) => ∃ as, Reads s.heap v z.2 as) its (us.zip ds) := by
      intro its us ds hl h
      induction h generalizing us with
      | nil => cases us with
        | nil => exact .nil
        | cons _ _ => cases hl
      | cons r t ih => cases us with
        | nil => cases hl
        | cons v us => exact .cons r (ih (Nat.succ.inj hl))
    exact key hlen er0
  refine sorted_data (R := fun u (z : V × D) => RelV z.1 u) (enc := fun z : V × D => z.2) hl.isList e er (by rw [hsn]; exact hal) (by rw [hsn]; exact hso) ?_ ?_ fun out ho eo => ?_
  · rw [List.length_zip, hlen, Nat.min_self]; exact hz
  · intro z hz2
    have h1 : z.2 ∈ ds := by rw [← hsn]; exact List.mem_map_of_mem hz2
    have h2 := of_decide_eq_true (o4 _ h1)
    have h3 : X.A.units + 2 + z.2.depth < cLine := by omega
    exact h3
  · obtain ⟨ep, he'⟩ := PyProof.Rows.sortedAll_at s.heap its out.toArray
    have hp := List.mergeSort_perm (us.zip ds) (dataLe false fun z : V × D => z.2)
    have hm : ((us.zip ds).mergeSort (dataLe false fun z : V × D => z.2)).map (·.2) = srt ds := by
      have q := List.map_mergeSort (r := dataLe false fun z : V × D => z.2) (s := dataLe false id) (f := fun z : V × D => z.2) (l := us.zip ds) (fun a _ b _ => rfl)
      rw [hsn] at q
      exact q
    have nD : H (s.heap.objs.size + 1) = none := I.hok.fresh (Nat.le_succ _)
    have vv := each_vals eo
    refine ⟨.ref _, upd H (s.heap.objs.size + 1) (.lst (((us.zip ds).mergeSort (dataLe false fun z : V × D => z.2)).map (·.1))), I.laid (t' := s.toks) (fun _ _ => PyProof.Rows.sortedAll_old) (Nat.le_succ _) ⟨?_, out, ep, vv, he'⟩, rfl, q _ _ nD hp hm⟩
    rw [List.length_map, List.length_mergeSort, List.length_zip, hlen, Nat.min_self]
    exact hz
theorem srt_dp {F : Hp} {us : List V} {ds : List D} (d : CS.DpAll K F us ds) {zs : List (V × D)} (hp : zs.Perm (us.zip ds)) : CS.DpAll K F (zs.map (·.1)) (zs.map (·.2)) := by
  have h1 : ∀ z ∈ us.zip ds, CS.Dp K F z.1 z.2 := by
    have key : ∀ {us : List V} {ds : List D}, CS.DpAll K F us ds → ∀ z ∈ us.zip ds, CS.Dp K F z.1 z.2 := by
      intro us ds d
      induction us generalizing ds with
      | nil => intro z hz; simp at hz
      | cons v us ih =>
        cases d with
        | cons h t =>
          intro z hz
          simp only [List.zip_cons_cons, List.mem_cons] at hz
          rcases hz with rfl | hz
          · exact h
          · exact ih t z hz
    exact key d
  have h2 : ∀ z ∈ zs, CS.Dp K F z.1 z.2 := fun z hz => h1 z (hp.mem_iff.mp hz)
  clear hp h1 d
  induction zs with
  | nil => exact .nil
  | cons z zs ih => exact .cons (h2 z List.mem_cons_self) (ih fun y hy => h2 y (List.mem_cons_of_mem _ hy))
theorem o_sort : OpN1 K (fun v H Q => rSrt K [v] H Q) gSort := fun F H v x z Q s b e k => by
  unfold gSort at e
  split at e
  · rename_i xs
    split at e
    · rename_i h
      rw [Bool.and_eq_true] at h
      cases e
      obtain ⟨a, vs, rfl, h1, d1⟩ := b.list s
      have lay : PyData.canLayAll0 xs = true := by
        have := h.1
        unfold sortOk at this
        simp only [Bool.and_eq_true] at this
        exact this.2.2.1
      refine ⟨a, vs, xs, rfl, SqL.of h1, (DpmA s d1).up lay, h.1, fits_ok h.2, fun p zs hp hperm hz => ?_⟩
      have := k p (zs.map (·.1)) hp
      rw [← hz] at this
      exact this (srt_dp d1 hperm)
    · cases e
  · cases e
end
end CS
namespace CS
open PySem PySem.Spec PyProof.Rows L2
theorem rm65 {k : Nat} {A : Around} (h : Room k A) : A.units + 65 < cLine := by have := h.un; omega
theorem hasNo {P : Program} {w : World} {K : PySem.W.Frag} {mg : Str → Option Value} {base : Heap} {x : Str} {params : Arguments} {body : List Stmt} {scope : Scope} {f : Addr} {fd : FuncData} {qs : List Str} {n k : Nat} (F : FunD K x x params body scope [] [] f fd) (gm : mg x = some (.ref f)) (hb : Binds K fd qs []) (hq : qs.length = n) : Has P w K mg base x n k (spD K fun _ => none) := by
  refine ⟨f, fd, qs, hq, gm, F.kp, hb, ⟨fun vs H Q E h => ?_, fun A outer s H args us vs Q E _ _ _ _ h => ?_⟩⟩
  · obtain ⟨_, _, _, _, z, h, _⟩ := h
    cases h
  · obtain ⟨_, _, _, _, z, h, _⟩ := h
    cases h
end CS
namespace CS
open PySem PySem.Spec PyProof.Rows L2
section
variable {X : Cx}
theorem dct {op : CmpOp} {a b : Expr} {pos : Pos} {r : R2} {g : D → D → Option D} {fa fb : ES D} (o : Op2 X.K r g) (h : OpR X (compareOp op) r) (ha : PE X a (tE X.K fa)) (hb : PE X b (tB X.K fb)) (hm : behindInMarks op b = false) : PT X (.Compare a [op] [b] pos) (tT X.K (eT (e2 g fa fb))) := PTw (pt_cmpR h ha hb hm) fun _ _ _ q => w_2 o (w_T q)
theorem dctL {op : CmpOp} {a b : Expr} {pos : Pos} {r : R2} {g : D → D → Option D} {i : Nat} {fb : ES D} (o : Op2 X.K r g) (h : OpR X (compareOp op) r) (ha : PE X a (tVar i)) (hb : PE X b (tB X.K fb)) (hm : behindInMarks op b = false) : PT X (.Compare a [op] [b] pos) (tT X.K (eT (e2L g i fb))) := PTw (pt_cmpR h ha hb hm) fun _ _ _ q => w_2L o (w_T q)
theorem dcht {op op' : CmpOp} {a b c : Expr} {pos : Pos} {r r' : R2} {g g' : D → D → Option D} {fa fb fc : ES D} (o : Op2 X.K r g) (o' : Op2 X.K r' g') (h : OpR X (compareOp op) r) (h' : OpR X (compareOp op') r') (ha : PE X a (tE X.K fa)) (hb : PE X b (tE X.K fb)) (hc : PE X c (tB X.K fc)) (hm : lastMarks [op, op'] [b, c] = false := by with_unfolding_all rfl) :
    PT X (.Compare a [op, op'] [b, c] pos) (tT X.K (eT (eCh g g' fa fb fc))) := PTw (pt_chain h h' ha hb hc hm) fun _ _ _ q => w_ch o o' (w_T q)
end
end CS
namespace CS
open PySem PySem.Spec PyProof.Rows L2
def eIs (f : ES D) : ES (List D) := eb f fun x => eo (itemsD x)
/-- a list or a tuple is walked -/
theorem iseq {X : Cx} {tg l : Expr} {f : ES D} (h : PE X l (tE X.K f)) : PI X tg l (tI X.K (eIs f)) := ⟨fun pins s σ H R I q => by
  obtain ⟨B, F, ρ, Rl, xs, ρ', e, k⟩ := q
  obtain ⟨x, ρ1, e1, e2⟩ := eb_some e
  obtain ⟨y, e3, e4⟩ := eo_some e2
  cases e4
  cases x with
  | list ys => exact (ilist h).run pins s σ H R I ⟨B, F, ρ, Rl, xs, ρ', by unfold eLs eb; rw [e1]; exact congrArg (eo · ρ') e3, k⟩
  | tuple ys => exact (ituple h).run pins s σ H R I ⟨B, F, ρ, Rl, xs, ρ', by unfold eTs eb; rw [e1]; exact congrArg (eo · ρ') e3, k⟩
  | _ => cases e3⟩
end CS
set_option Elab.async false
set_option linter.all false
set_option maxRecDepth 100000
set_option maxHeartbeats 4000000
set_option autoImplicit false
namespace CS
open PySem PySem.Spec PyProof.Rows L2
/-- != where the left one may be the locked list -/
def gNeS : D → D → Option D
  | .dict [(.none, .list xs)], y => gNe (.list xs) y
  | _, _ => none
theorem ints_L2 {K : PySem.W.Frag} {H : Hp} : ∀ ns : List Int, L2.DpAll K H (ns.map V.int) (ns.map PyData.int)
  | [] => .nil
  | n :: ns => .cons (.int n) (ints_L2 ns)
theorem o_neS {K : PySem.W.Frag} : Op2 K (rNeD K) gNeS := fun F H v u x y z Q s b1 b2 e k => by
  unfold gNeS at e
  split at e
  · have d := b1.ref
    cases d with
    | @scr a ns h1 =>
      unfold gNe at e
      split at e
      · rename_i h
        rw [Bool.and_eq_true] at h
        cases e
        exact ⟨.list (ns.map PyData.int), y, .lst (CS.Same.seqL s h1) (ints_L2 ns), (b2.dp s).up (shp_lay h.2), h.1, h.2, k F H _ .refl (.bl _)⟩
      · cases e
  · cases e
end CS
set_option Elab.async false
set_option linter.all false
set_option maxRecDepth 100000
set_option maxHeartbeats 4000000
set_option autoImplicit false
namespace CS
open PySem PySem.Spec PyProof.Rows L2
/-! ### evaluation by simp -/
section
variable {α β : Type} {ρ : En}
@[simp] theorem x_eb {f : ES α} {g : α → ES β} : eb f g ρ = match f ρ with
  | some (x, ρ1) => g x ρ1
  | none => none := rfl
@[simp] theorem x_ep {x : α} : ep x ρ = some (x, ρ) := rfl
@[simp] theorem x_eo1 {x : α} : eo (some x) ρ = some (x, ρ) := rfl
@[simp] theorem x_eo2 : eo (none : Option α) ρ = none := rfl
@[simp] theorem x_eV {i : Nat} : eV i ρ = match ρ[i]? with
  | some (some (.d x)) => some (x, ρ)
  | _ => none := rfl
@[simp] theorem x_eM {i : Nat} : eM i ρ = match ρ[i]? with
  | some (some (.m x)) => some (x, ρ)
  | _ => none := rfl
@[simp] theorem x_eMb {i : Nat} : eMb i ρ = match ρ[i]? with
  | some (some (.m x)) => some (.list x, ρ)
  | _ => none := rfl
@[simp] theorem x_e1 {g : D → Option α} {f : ES D} : e1 g f ρ = match f ρ with
  | some (x, ρ1) => eo (g x) ρ1
  | none => none := by
  unfold e1 eb
  cases f ρ with
  | none => rfl
  | some p => rfl
@[simp] theorem x_e2 {g : D → D → Option α} {f f' : ES D} : e2 g f f' ρ = match f ρ with
  | some (x, ρ1) => (match f' ρ1 with
    | some (y, ρ2) => eo (g x y) ρ2
    | none => none)
  | none => none := by
  unfold e2 eb
  cases f ρ with
  | none => rfl
  | some p =>
    obtain ⟨x, r⟩ := p
    simp only
    cases f' r with
    | none => rfl
    | some q => rfl
@[simp] theorem x_e2L {g : D → D → Option α} {i : Nat} {f : ES D} : e2L g i f ρ = eb (eM i) (fun _ => eb f fun y => eb (eMb i) fun x => eo (g x y)) ρ := rfl
@[simp] theorem x_eL {f : ES (List D)} : eL f ρ = match f ρ with
  | some (xs, ρ') => some (.list xs, ρ')
  | none => none := rfl
@[simp] theorem x_eLs {f : ES D} : eLs f ρ = match f ρ with
  | some (x, ρ') => eo (lD x) ρ'
  | none => none := by
  unfold eLs eb
  cases f ρ with
  | none => rfl
  | some p => rfl
@[simp] theorem x_eIs {f : ES D} : eIs f ρ = match f ρ with
  | some (x, ρ') => eo (itemsD x) ρ'
  | none => none := by
  unfold eIs eb
  cases f ρ with
  | none => rfl
  | some p => rfl
@[simp] theorem x_eTs {f : ES D} : eTs f ρ = match f ρ with
  | some (x, ρ') => eo (tD x) ρ'
  | none => none := by
  unfold eTs eb
  cases f ρ with
  | none => rfl
  | some p => rfl
@[simp] theorem x_eAs {g : List D → Option α} {f : ES (List D)} : eAs g f ρ = match f ρ with
  | some (x, ρ') => eo (g x) ρ'
  | none => none := by
  unfold eAs eb
  cases f ρ with
  | none => rfl
  | some p => rfl
@[simp] theorem x_eAn : eAn ρ = some ([], ρ) := rfl
@[simp] theorem x_eAc {f : ES D} {g : ES (List D)} : eAc f g ρ = match f ρ with
  | some (x, ρ1) => (match g ρ1 with
    | some (xs, ρ2) => some (x :: xs, ρ2)
    | none => none)
  | none => none := by
  unfold eAc eb
  cases f ρ with
  | none => rfl
  | some p =>
    obtain ⟨x, r⟩ := p
    simp only
    cases g r with
    | none => rfl
    | some q => rfl
@[simp] theorem x_eAst {f : ES D} {g : ES (List D)} : eAst f g ρ = match f ρ with
  | some (x, ρ1) => eb (eo (itemsD x)) (fun xs => eb g fun ys => ep (xs ++ ys)) ρ1
  | none => none := by
  unfold eAst eb
  cases f ρ with
  | none => rfl
  | some p => rfl
@[simp] theorem x_eT {f : ES D} : eT f ρ = match f ρ with
  | some (x, ρ') => eo (bD x) ρ'
  | none => none := by
  unfold eT eb
  cases f ρ with
  | none => rfl
  | some p => rfl
@[simp] theorem x_eAnd {f g : ES Bool} : eAnd f g ρ = match f ρ with
  | some (true, ρ1) => g ρ1
  | some (false, ρ1) => some (false, ρ1)
  | none => none := by
  unfold eAnd eb
  cases f ρ with
  | none => rfl
  | some p => obtain ⟨b, r⟩ := p; cases b <;> rfl
@[simp] theorem x_eOr {f g : ES Bool} : eOr f g ρ = match f ρ with
  | some (false, ρ1) => g ρ1
  | some (true, ρ1) => some (true, ρ1)
  | none => none := by
  unfold eOr eb
  cases f ρ with
  | none => rfl
  | some p => obtain ⟨b, r⟩ := p; cases b <;> rfl
@[simp] theorem x_eNot {f : ES Bool} : eNot f ρ = match f ρ with
  | some (b, ρ1) => some (!b, ρ1)
  | none => none := by
  unfold eNot eb
  cases f ρ with
  | none => rfl
  | some p => rfl
@[simp] theorem x_eIf {c : ES Bool} {a b : ES D} : eIf c a b ρ = match c ρ with
  | some (true, ρ1) => a ρ1
  | some (false, ρ1) => b ρ1
  | none => none := by
  unfold eIf eb
  cases c ρ with
  | none => rfl
  | some p => obtain ⟨b, r⟩ := p; cases b <;> rfl
@[simp] theorem x_eAndV {a b : ES D} : eAndV a b ρ = match a ρ with
  | some (.bool true, ρ1) => b ρ1
  | some (.bool false, ρ1) => some (.bool false, ρ1)
  | _ => none := by
  unfold eAndV eb
  cases a ρ with
  | none => rfl
  | some p =>
    obtain ⟨x, r⟩ := p
    cases x with
    | bool c => cases c <;> rfl
    | _ => rfl
@[simp] theorem x_eOrV {a b : ES D} : eOrV a b ρ = match a ρ with
  | some (.bool false, ρ1) => b ρ1
  | some (.bool true, ρ1) => some (.bool true, ρ1)
  | _ => none := by
  unfold eOrV eb
  cases a ρ with
  | none => rfl
  | some p =>
    obtain ⟨x, r⟩ := p
    cases x with
    | bool c => cases c <;> rfl
    | _ => rfl
@[simp] theorem x_eNotV {a : ES D} : eNotV a ρ = match a ρ with
  | some (.bool c, ρ1) => some (.bool (!c), ρ1)
  | _ => none := by
  unfold eNotV eb
  cases a ρ with
  | none => rfl
  | some p =>
    obtain ⟨x, r⟩ := p
    cases x <;> rfl
@[simp] theorem x_sNx : sNx ρ = some (.nx, ρ) := rfl
@[simp] theorem x_sNo : sNo ρ = none := rfl
@[simp] theorem x_sBk : sBk ρ = some (.bk, ρ) := rfl
@[simp] theorem x_sCt : sCt ρ = some (.ct, ρ) := rfl
@[simp] theorem x_sSq {f g : SS} : sSq f g ρ = match f ρ with
  | some (.nx, ρ1) => g ρ1
  | r => r := rfl
@[simp] theorem x_sIf {c : ES Bool} {f g : SS} : sIf c f g ρ = match c ρ with
  | some (true, ρ1) => f ρ1
  | some (false, ρ1) => g ρ1
  | none => none := rfl
@[simp] theorem x_bd {i : Nat} {x : D} : bd i x ρ = match isM ρ i with
  | true => none
  | false => some (ρ.set i (some (.d x))) := rfl
def isMw : Option (Option W) → Bool
  | some (some (.m _)) => true
  | _ => false
@[simp] theorem x_isM {i : Nat} : isM ρ i = isMw ρ[i]? := by
  unfold isM isMw
  split <;> rename_i h <;> simp [h]
/-- a slot that holds data, or nothing -/
def Od (o : Option D) : Option W := o.map W.d
@[simp] theorem isMw_0 : isMw none = false := rfl
@[simp] theorem isMw_1 : isMw (some none) = false := rfl
@[simp] theorem isMw_2 {x : D} : isMw (some (some (.d x))) = false := rfl
@[simp] theorem isMw_3 {x : List D} : isMw (some (some (.m x))) = true := rfl
@[simp] theorem isMw_4 {o : Option D} : isMw (some (Od o)) = false := by cases o <;> rfl
@[simp] theorem Od_d (x : D) : Od (some x) = some (.d x) := rfl
@[simp] theorem Od_n : Od none = none := rfl
@[simp] theorem x_sA {i : Nat} {f : ES D} : sA i f ρ = match f ρ with
  | some (x, ρ1) => (bd i x ρ1).map fun ρ2 => (.nx, ρ2)
  | none => none := rfl
@[simp] theorem x_sAN {i : Nat} {f : ES (List D)} : sAN i f ρ = match f ρ with
  | some (x, ρ1) => some (.nx, ρ1.set i (some (.m x)))
  | none => none := rfl
@[simp] theorem x_sE {f : ES D} : sE f ρ = match f ρ with
  | some (_, ρ1) => some (.nx, ρ1)
  | none => none := rfl
@[simp] theorem x_sR {f : ES D} : sR f ρ = match f ρ with
  | some (x, ρ1) => some (.rt (.d x), ρ1)
  | none => none := rfl
@[simp] theorem x_sRN {f : ES (List D)} : sRN f ρ = match f ρ with
  | some (x, ρ1) => some (.rt (.m x), ρ1)
  | none => none := rfl
@[simp] theorem x_sFz {is : List Nat} {f : SS} : sFz is f ρ = f (frzE is ρ) := rfl
@[simp] theorem x_frz0 : frzE [] ρ = ρ := rfl
@[simp] theorem x_frz1 {i : Nat} {is : List Nat} : frzE (i :: is) ρ = frzE is (match ρ[i]? with
    | some (some (.m xs)) => ρ.set i (some (.d (.list xs)))
    | _ => ρ) := rfl
@[simp] theorem x_sFor {src : ES (List D)} {b : Bd} {s : SS} : sFor src b s ρ = match src ρ with
  | some (xs, ρ1) => forL b s xs ρ1
  | none => none := rfl
@[simp] theorem x_for0 {b : Bd} {s : SS} : forL b s [] ρ = some (.nx, ρ) := rfl
@[simp] theorem x_for1 {b : Bd} {s : SS} {x : D} {r : List D} : forL b s (x :: r) ρ = match b x ρ with
    | none => none
    | some ρ1 => match s ρ1 with
      | none => none
      | some (.nx, ρ2) => forL b s r ρ2
      | some (.ct, ρ2) => forL b s r ρ2
      | some (.bk, ρ2) => some (.nx, ρ2)
      | some (.rt w, ρ2) => some (.rt w, ρ2) := rfl
@[simp] theorem x_bdT {n : Nat} {bs : Bds} {xs : List D} : bdT n bs (.tuple xs) ρ = match Nat.beq xs.length n with
    | true => bs xs ρ
    | false => none := rfl
@[simp] theorem x_bdC {b : Bd} {bs : Bds} {x : D} {r : List D} : bdCons b bs (x :: r) ρ = match b x ρ with
    | some ρ1 => bs r ρ1
    | none => none := rfl
@[simp] theorem x_bdN : bdNil [] ρ = some ρ := rfl
@[simp] theorem x_sTg {f : ES D} {b : Bd} : sTg f b ρ = match f ρ with
  | some (x, ρ1) => (b x ρ1).map fun ρ2 => (.nx, ρ2)
  | none => none := rfl
@[simp] theorem x_sPar {is : List Nat} {its : List Itm} : sPar is its ρ = match evIs its ρ with
  | some (ws, ρ1) => (setWs is ws ρ1).map fun ρ2 => (.nx, ρ2)
  | none => none := rfl
@[simp] theorem x_evIs0 : evIs [] ρ = some ([], ρ) := rfl
@[simp] theorem x_evIs1 {i : Itm} {r : List Itm} : evIs (i :: r) ρ = match evI i ρ with
  | some (w, ρ1) => (match evIs r ρ1 with
    | some (ws, ρ2) => some (w :: ws, ρ2)
    | none => none)
  | none => none := by
  show eb (evI i) (fun w => eb (evIs r) fun ws => ep (w :: ws)) ρ = _
  unfold eb
  cases evI i ρ with
  | none => rfl
  | some p =>
    obtain ⟨x, ρ1⟩ := p
    simp only
    cases evIs r ρ1 with
    | none => rfl
    | some q => rfl
@[simp] theorem x_evIe {f : ES D} : evI (.e f) ρ = match f ρ with
  | some (x, ρ1) => some (.d x, ρ1)
  | none => none := by
  show eb f (fun x => ep (W.d x)) ρ = _
  unfold eb
  cases f ρ with
  | none => rfl
  | some p => rfl
@[simp] theorem x_evIn {f : ES (List D)} : evI (.n f) ρ = match f ρ with
  | some (x, ρ1) => some (.m x, ρ1)
  | none => none := by
  show eb f (fun x => ep (W.m x)) ρ = _
  unfold eb
  cases f ρ with
  | none => rfl
  | some p => rfl
@[simp] theorem x_setWs0 : setWs [] [] ρ = some ρ := rfl
@[simp] theorem x_setWs1 {i : Nat} {is : List Nat} {w : W} {ws : List W} : setWs (i :: is) (w :: ws) ρ = match setW i w ρ with
    | some ρ1 => setWs is ws ρ1
    | none => none := rfl
@[simp] theorem x_setWd {i : Nat} {x : D} : setW i (.d x) ρ = bd i x ρ := rfl
@[simp] theorem x_setWm {i : Nat} {x : List D} : setW i (.m x) ρ = some (ρ.set i (some (.m x))) := rfl
@[simp] theorem x_eGrow {i : Nat} {f : ES (List D)} : eGrow i f ρ = eb (eM i) (fun _ => eb f fun ys => eb (eM i) fun xs => fun ρ => match fits (xs.length + ys.length) with
  | true => some (.none, ρ.set i (some (.m (xs ++ ys))))
  | false => none) ρ := rfl
@[simp] theorem x_sSt {i : Nat} {fe fi : ES D} : sSt i fe fi ρ = match eb fe (fun x => eb (eM i) fun _ => eb fi fun k => eb (eM i) fun xs => eb (eo (setI xs k x)) fun ys => ep ys) ρ with
  | some (ys, ρ1) => some (.nx, ρ1.set i (some (.m ys)))
  | none => none := rfl
@[simp] theorem x_sAug {i : Nat} {g : Int → Int → Int} {f : ES D} : sAug i g f ρ = match eb (eV i) (fun x => eb f fun y => eo (gI (fun _ _ => true) g x y)) ρ with
  | some (z, ρ1) => (bd i z ρ1).map fun ρ2 => (.nx, ρ2)
  | none => none := rfl
@[simp] theorem x_eCh {g g' : D → D → Option D} {fa fb fc : ES D} : eCh g g' fa fb fc ρ = match fa ρ with
  | some (x, ρ1) => (match fb ρ1 with
    | some (y, ρ2) => (match g x y with
      | some (.bool true) => (match fc ρ2 with
        | some (w, ρ3) => eo (g' y w) ρ3
        | none => none)
      | some (.bool false) => some (.bool false, ρ2)
      | _ => none)
    | none => none)
  | none => none := by
  unfold eCh eb
  cases fa ρ with
  | none => rfl
  | some p =>
    obtain ⟨x, ρ1⟩ := p
    simp only
    cases fb ρ1 with
    | none => rfl
    | some q =>
      obtain ⟨y, ρ2⟩ := q
      simp only
      cases g x y with
      | none => rfl
      | some z =>
        cases z with
        | bool c =>
          cases c
          · rfl
          · simp only [eo, bD, ep]
            cases fc ρ2 <;> rfl
        | _ => rfl
@[simp] theorem x_eSl {f : ES D} {fl fh : ES (Option Int)} : eSl f fl fh ρ = eb f (fun x => eb fl fun lo => eb fh fun hi => eo (gSl lo hi x)) ρ := rfl
@[simp] theorem x_eRem {i : Nat} {f : ES D} : eRem i f ρ = eb (eM i) (fun _ => eb f fun y => eb (eM i) fun xs => fun ρ => match rmI xs y with
  | some ys => some (.none, ρ.set i (some (.m ys)))
  | none => none) ρ := rfl
@[simp] theorem x_eCM {g : List D → List D → Option (D × List D)} {i : Nat} {f : ES (List D)} : eCM g i f ρ = eb (eM i) (fun _ => eb f fun xs => eb (eM i) fun ys => fun ρ => match g ys xs with
  | some (z, ys') => some (z, ρ.set i (some (.m ys')))
  | none => none) ρ := rfl
end
@[simp] theorem x_lD {xs : List D} : lD (.list xs) = some xs := rfl
@[simp] theorem x_tD {xs : List D} : tD (.tuple xs) = some xs := rfl
@[simp] theorem x_bD {b : Bool} : bD (.bool b) = some b := rfl
@[simp] theorem x_intD {i : Int} : intD (.int i) = some (some i) := rfl
@[simp] theorem x_itemsL {xs : List D} : itemsD (.list xs) = some xs := rfl
@[simp] theorem x_itemsT {xs : List D} : itemsD (.tuple xs) = some xs := rfl
@[simp] theorem x_gAddI {i j : Int} : gAdd (.int i) (.int j) = some (.int (i + j)) := rfl
@[simp] theorem x_gSubI {i j : Int} : gSub (.int i) (.int j) = some (.int (i - j)) := rfl
@[simp] theorem x_gLtI {i j : Int} : gLtX (.int i) (.int j) = some (.bool (decide (i < j))) := rfl
@[simp] theorem x_gLeI {i j : Int} : gLe (.int i) (.int j) = some (.bool (decide (i ≤ j))) := rfl
@[simp] theorem x_gGtI {i j : Int} : gGt (.int i) (.int j) = some (.bool (decide (j < i))) := rfl
@[simp] theorem x_gGeI {i j : Int} : gGe (.int i) (.int j) = some (.bool (decide (j ≤ i))) := rfl
@[simp] theorem x_gNegI {i : Int} : gNeg (.int i) = some (.int (-i)) := rfl
@[simp] theorem x_gAbs {i : Int} : gAbs (.int i) = some (.int (i.natAbs)) := by
  show some (PyData.int (if i < 0 then -i else i)) = _
  congr 2
  split <;> omega
@[simp] theorem x_gModI {i j : Int} (h : j ≠ 0) : gMod (.int i) (.int j) = some (.int (i.fmod j)) := by
  unfold gMod gI
  simp [h]
@[simp] theorem x_gIsN {x : D} : gIs x .none = some (.bool (isNone x)) := by cases x <;> rfl
@[simp] theorem x_gIsNotN {x : D} : gIsNot x .none = some (.bool (!isNone x)) := by cases x <;> rfl
@[simp] theorem x_isNone0 : isNone .none = true := rfl
@[simp] theorem x_isNone1 {i : Int} : isNone (.int i) = false := rfl
@[simp] theorem x_isNone2 {xs : List D} : isNone (.tuple xs) = false := rfl
@[simp] theorem x_isNone3 {xs : List D} : isNone (.list xs) = false := rfl
@[simp] theorem x_isiL {T : String} {xs : List D} : gIsi T (.list xs) = some (.bool (isT T "list")) := rfl
@[simp] theorem x_isiT {T : String} {xs : List D} : gIsi T (.tuple xs) = some (.bool (isT T "tuple")) := rfl
@[simp] theorem x_isiI {T : String} {i : Int} : gIsi T (.int i) = some (.bool (isT T "int")) := rfl
@[simp] theorem x_isiB {T : String} {i : Bool} : gIsi T (.bool i) = some (.bool (isT T "bool")) := rfl
@[simp] theorem x_isiN {T : String} : gIsi T .none = some (.bool (isT T "NoneType")) := rfl
@[simp] theorem x_gLenL {xs : List D} : gLen (.list xs) = some (.int xs.length) := rfl
@[simp] theorem x_gLenT {xs : List D} : gLen (.tuple xs) = some (.int xs.length) := rfl
@[simp] theorem x_gInt1 {i : Int} : gInt (.int i) = some (.int i) := rfl
@[simp] theorem x_gInt2 {i : Bool} : gInt (.bool i) = some (.int (if i then 1 else 0)) := rfl
@[simp] theorem x_gLs0 : gLs [] = some [] := rfl
@[simp] theorem x_gTp0 : gTp [] = some (.tuple []) := rfl
@[simp] theorem x_gLs1 {x0 : D} : gLs [x0] = some [x0] := rfl
@[simp] theorem x_gTp1 {x0 : D} : gTp [x0] = some (.tuple [x0]) := rfl
@[simp] theorem x_gLs2 {x0 x1 : D} : gLs [x0, x1] = some [x0, x1] := rfl
@[simp] theorem x_gTp2 {x0 x1 : D} : gTp [x0, x1] = some (.tuple [x0, x1]) := rfl
@[simp] theorem x_gLs3 {x0 x1 x2 : D} : gLs [x0, x1, x2] = some [x0, x1, x2] := rfl
@[simp] theorem x_gTp3 {x0 x1 x2 : D} : gTp [x0, x1, x2] = some (.tuple [x0, x1, x2]) := rfl
@[simp] theorem x_gLs4 {x0 x1 x2 x3 : D} : gLs [x0, x1, x2, x3] = some [x0, x1, x2, x3] := rfl
@[simp] theorem x_gTp4 {x0 x1 x2 x3 : D} : gTp [x0, x1, x2, x3] = some (.tuple [x0, x1, x2, x3]) := rfl
@[simp] theorem x_gLs5 {x0 x1 x2 x3 x4 : D} : gLs [x0, x1, x2, x3, x4] = some [x0, x1, x2, x3, x4] := rfl
@[simp] theorem x_gTp5 {x0 x1 x2 x3 x4 : D} : gTp [x0, x1, x2, x3, x4] = some (.tuple [x0, x1, x2, x3, x4]) := rfl
@[simp] theorem x_gLs6 {x0 x1 x2 x3 x4 x5 : D} : gLs [x0, x1, x2, x3, x4, x5] = some [x0, x1, x2, x3, x4, x5] := rfl
@[simp] theorem x_gTp6 {x0 x1 x2 x3 x4 x5 : D} : gTp [x0, x1, x2, x3, x4, x5] = some (.tuple [x0, x1, x2, x3, x4, x5]) := rfl
@[simp] theorem x_ixL {xs : List D} {i : Int} : gIx (.list xs) (.int i) = atI xs i := rfl
@[simp] theorem x_ixT {xs : List D} {i : Int} : gIx (.tuple xs) (.int i) = atI xs i := rfl
@[simp] theorem x_argE0 : argE [] = [] := rfl
@[simp] theorem x_argE1 {x : D} {r : List D} : argE (x :: r) = some (.d x) :: argE r := rfl
@[simp] theorem x_fits {n : Nat} : fits n = decide (n ≤ 16777216) := by
  unfold fits
  by_cases h : n ≤ 16777216
  · rw [Nat.ble_eq_true_of_le h, decide_eq_true h]
  · rw [decide_eq_false h]
    cases q : Nat.ble n 16777216 with
    | false => rfl
    | true => exact absurd (Nat.le_of_ble_eq_true q) h
@[simp] theorem x_gAddL {xs ys : List D} : gAdd (.list xs) (.list ys) = match decide (xs.length + ys.length ≤ 16777216) with
    | true => some (.list (xs ++ ys))
    | false => none := by
  rw [← x_fits]
  rfl
@[simp] theorem x_gTuL {xs : List D} : gTuple (.list xs) = some (.tuple xs) := rfl
@[simp] theorem x_gTuT {xs : List D} : gTuple (.tuple xs) = some (.tuple xs) := rfl
theorem fits_of {n : Nat} (h : n ≤ 16777216) : fits n = true := Nat.ble_eq_true_of_le h
theorem atI_ofNat {α : Type} (xs : List α) (n : Nat) : atI xs (n : Int) = xs[n]? := by
  unfold atI ixN
  by_cases h : n < xs.length
  · simp [h]
  · simp [h]
@[simp] theorem atI_0 {α : Type} (x : α) (r : List α) : atI (x :: r) 0 = some x := by simpa using atI_ofNat (x :: r) 0
@[simp] theorem atI_1 {α : Type} (x y : α) (r : List α) : atI (x :: y :: r) 1 = some y := by simpa using atI_ofNat (x :: y :: r) 1
theorem for_cons {b : Bd} {s : SS} {x : D} {r : List D} {ρ ρ1 : En} (h : b x ρ = some ρ1) : forL b s (x :: r) ρ = match s ρ1 with
      | none => none
      | some (.nx, ρ2) => forL b s r ρ2
      | some (.ct, ρ2) => forL b s r ρ2
      | some (.bk, ρ2) => some (.nx, ρ2)
      | some (.rt w, ρ2) => some (.rt w, ρ2) := by
  show (match b x ρ with
    | none => none
    | some ρ1 => match s ρ1 with
      | none => none
      | some (.nx, ρ2) => forL b s r ρ2
      | some (.ct, ρ2) => forL b s r ρ2
      | some (.bk, ρ2) => some (.nx, ρ2)
      | some (.rt w, ρ2) => some (.rt w, ρ2)) = _
  rw [h]
theorem wh_1 {c : ES Bool} {b : SS} {n : Nat} {ρ : En} : whileN (n + 1) c b ρ = match c ρ with
    | none => none
    | some (false, ρ1) => some (.nx, ρ1)
    | some (true, ρ1) => match b ρ1 with
      | none => none
      | some (.nx, ρ2) => whileN n c b ρ2
      | some (.ct, ρ2) => whileN n c b ρ2
      | some (.bk, ρ2) => some (.nx, ρ2)
      | some (.rt w, ρ2) => some (.rt w, ρ2) := rfl
/-! ### small numbers -/
def Sm (a : Int) : Prop := a.natAbs.log2 ≤ 250
instance (a : Int) : Decidable (Sm a) := by unfold Sm; infer_instance
theorem okMul_sm {a b : Int} (h1 : Sm a) (h2 : Sm b) : okMul a b = true := by
  unfold Sm at h1 h2
  unfold okMul
  refine decide_eq_true ?_
  show a.natAbs.log2 + b.natAbs.log2 < 1000000
  omega
theorem x_gMulI {a b : Int} (h : okMul a b = true) : gMul (.int a) (.int b) = some (.int (a * b)) := by
  unfold gMul
  simp only [h]
@[simp] theorem x_gMulS {a b : Int} (h1 : Sm a) (h2 : Sm b) : gMul (.int a) (.int b) = some (.int (a * b)) := x_gMulI (okMul_sm h1 h2)
theorem log2_le_of {n k : Nat} (h : n < 2 ^ (k + 1)) : n.log2 ≤ k := by
  by_cases h0 : n = 0
  · subst h0; simp
  · have := (Nat.log2_lt h0).mpr h
    omega
theorem Sm_of {a : Int} (h1 : -(10 ^ 70) ≤ a) (h2 : a ≤ 10 ^ 70) : Sm a := by
  refine log2_le_of ?_
  have : a.natAbs ≤ 10 ^ 70 := by omega
  exact Nat.lt_of_le_of_lt this (by decide)
@[simp] theorem Sm_0 : Sm 0 := by decide
@[simp] theorem Sm_1 : Sm 1 := by decide
@[simp] theorem Sm_2 : Sm 2 := by decide
@[simp] theorem Sm_m : Sm (-1) := by decide
@[simp] theorem Sm_neg {a : Int} : Sm (-a) ↔ Sm a := by unfold Sm; rw [Int.natAbs_neg]
@[simp] theorem x_fdiv1 {a : Int} : gFdiv (.int a) (.int 1) = some (.int a) := by
  unfold gFdiv gI
  have : okDiv a 1 = true := rfl
  simp only [this, Int.fdiv_one]
end CS
set_option Elab.async false
set_option linter.all false
set_option maxRecDepth 100000
set_option maxHeartbeats 4000000
set_option autoImplicit false
namespace CS
open PySem PySem.Spec PyProof.Rows L2
/-! ### loops and comprehensions over typed lists -/
section
variable {α : Type}
theorem for_pre (enc : α → D) {b : Bd} {s : SS} (I : List α → En → Prop) : ∀ (post pre as : List α), as = pre ++ post →
    (∀ pre a post ρ, as = pre ++ a :: post → I pre ρ → ∃ ρ1 ρ', b (enc a) ρ = some ρ1 ∧ s ρ1 = some (.nx, ρ') ∧ I (pre ++ [a]) ρ') → ∀ ρ, I pre ρ → ∃ ρ', forL b s (post.map enc) ρ = some (.nx, ρ') ∧ I as ρ'
  | [], pre, as, e, h, ρ, h0 => ⟨ρ, rfl, by rw [e, List.append_nil]; exact h0⟩
  | a :: post, pre, as, e, h, ρ, h0 => by
    obtain ⟨ρ1, ρ', e1, e2, h1⟩ := h pre a post ρ e h0
    obtain ⟨ρ2, e3, h2⟩ := for_pre enc I post (pre ++ [a]) as (by rw [e]; simp) h ρ' h1
    refine ⟨ρ2, ?_, h2⟩
    rw [List.map_cons, for_cons e1, e2]
    exact e3
theorem for_inv (enc : α → D) {b : Bd} {s : SS} (I : List α → En → Prop) (as : List α) {ρ : En} (h0 : I [] ρ)
    (h : ∀ pre a post ρ, as = pre ++ a :: post → I pre ρ → ∃ ρ1 ρ', b (enc a) ρ = some ρ1 ∧ s ρ1 = some (.nx, ρ') ∧ I (pre ++ [a]) ρ') : ∃ ρ', forL b s (as.map enc) ρ = some (.nx, ρ') ∧ I as ρ' := for_pre enc I as [] as rfl h ρ h0
theorem rest_wipe (ρ : En) : ∀ vs : List Nat, restE vs ρ (wipeE vs ρ) = ρ := fun vs => by
  have hl : (restE vs ρ (wipeE vs ρ)).length = ρ.length := by rw [restE_len, wipeE_len]
  have key : ∀ (ws : List Nat) (ρ2 : En) (j : Nat), ρ2.length = ρ.length → (restE ws ρ ρ2)[j]? = if j ∈ ws then ρ[j]? else ρ2[j]? := by
    intro ws
    induction ws with
    | nil => intro ρ2 j _; simp [restE]
    | cons w ws ih =>
      intro ρ2 j hl2
      unfold restE
      rw [List.getElem?_set, restE_len, ih ρ2 j hl2]
      by_cases h1 : w = j
      · subst h1
        rw [if_pos rfl]
        by_cases h2 : w < ρ.length
        · rw [if_pos (by rw [hl2]; exact h2), if_pos List.mem_cons_self, List.getElem?_eq_getElem h2]
          rfl
        · rw [if_neg (by rw [hl2]; exact h2), if_pos List.mem_cons_self, List.getElem?_eq_none (Nat.le_of_not_lt h2)]
      · rw [if_neg h1]
        have : j ∈ w :: ws ↔ j ∈ ws := by
          rw [List.mem_cons]
          exact ⟨fun h => h.resolve_left (Ne.symm h1), .inr⟩
        by_cases h2 : j ∈ ws
        · rw [if_pos h2, if_pos (this.mpr h2)]
        · rw [if_neg h2, if_neg fun h => h2 (this.mp h)]
  refine List.ext_getElem? fun j => ?_
  rw [key vs _ j (wipeE_len ρ vs), wipeE_get]
  by_cases h : j ∈ vs
  · rw [if_pos h]
  · rw [if_neg h, if_neg fun q => h q.1]
/-- an element's turn: what is bound, the test, the item -/
def Turn (vs : List Nat) (b : Bd) (t : ES Bool) (el : ES D) (ρ0 : En) (x : D) (c : Bool) (y : D) : Prop := ∃ ρx, b x ρ0 = some ρx ∧ t ρx = some (c, ρx) ∧ (c = true → el ρx = some (y, ρx)) ∧ wipeE vs ρx = ρ0
theorem lcL_val (enc F : α → D) (tt : α → Bool) {vs : List Nat} {b : Bd} {t : ES Bool} {el : ES D} {ρ0 : En} : ∀ (as : List α), (∀ a ∈ as, Turn vs b t el ρ0 (enc a) (tt a) (F a)) → lcL vs b t el (as.map enc) ρ0 = some ((as.filter tt).map F, ρ0)
  | [], _ => rfl
  | a :: as, h => by
    obtain ⟨ρx, e1, e2, e3, e4⟩ := h a List.mem_cons_self
    have ih := lcL_val enc F tt as fun x hx => h x (List.mem_cons_of_mem _ hx)
    simp only [List.map_cons, lcL, e1, e2]
    cases q : tt a with
    | false =>
      simp only [e4, List.filter_cons, q]
      exact ih
    | true =>
      simp only [e3 q, e4, List.filter_cons, q, ih]
      rfl
theorem lcP_val (enc F : α → D) (tt : α → Bool) {vs : List Nat} {b : Bd} {t : ES Bool} {el : ES D} {ρ0 : En} : ∀ (as : List α), (∀ a ∈ as, Turn vs b t el ρ0 (enc a) (tt a) (F a)) → lcP vs b t el ρ0 (as.map enc) ρ0 = some ((as.filter tt).map F, ρ0)
  | [], _ => rfl
  | a :: as, h => by
    obtain ⟨ρx, e1, e2, e3, e4⟩ := h a List.mem_cons_self
    have ih := lcP_val enc F tt as fun x hx => h x (List.mem_cons_of_mem _ hx)
    unfold lcP
    simp only [List.map_cons, e1, e2]
    cases q : tt a with
    | false =>
      simp only [e4, if_pos, List.filter_cons, q]
      exact ih
    | true =>
      simp only [e3 q, e4, if_pos, List.filter_cons, q, ih]
      rfl
theorem lc_val (enc F : α → D) (tt : α → Bool) (as : List α) {vs : List Nat} {src : ES (List D)} {b : Bd} {t : ES Bool} {el : ES D} {ρ ρ1 : En} (hs : src ρ = some (as.map enc, ρ1)) (hm : anyM ρ1 vs = false) (hl : as.length ≤ 16777216)
    (h : ∀ a ∈ as, Turn vs b t el (wipeE vs ρ1) (enc a) (tt a) (F a)) : eLc vs src b t el ρ = some ((as.filter tt).map F, ρ1) := by
  unfold eLc
  simp only [hs, hm, lcL_val enc F tt as h]
  rw [fits_of (by rw [List.length_map]; exact Nat.le_trans (List.length_filter_le _ _) hl)]
  simp only [rest_wipe]
theorem lcM_val (enc F : α → D) (tt : α → Bool) (as : List α) {vs : List Nat} {i : Nat} {b : Bd} {t : ES Bool} {el : ES D} {ρ : En} (hs : ρ[i]? = some (some (.m (as.map enc)))) (hm : anyM ρ vs = false) (hl : as.length ≤ 16777216)
    (h : ∀ a ∈ as, Turn vs b t el (wipeE vs ρ) (enc a) (tt a) (F a)) : eLcM vs i b t el ρ = some ((as.filter tt).map F, ρ) := by
  unfold eLcM
  have e : eM i ρ = some (as.map enc, ρ) := by rw [x_eM, hs]
  simp only [e, hm, lcP_val enc F tt as h]
  rw [fits_of (by rw [List.length_map]; exact Nat.le_trans (List.length_filter_le _ _) hl)]
  simp only [rest_wipe]
/-- the same, no test -/
theorem lc_map (enc F : α → D) (as : List α) {vs : List Nat} {src : ES (List D)} {b : Bd} {el : ES D} {ρ ρ1 : En} (hs : src ρ = some (as.map enc, ρ1)) (hm : anyM ρ1 vs = false) (hl : as.length ≤ 16777216)
    (h : ∀ a ∈ as, Turn vs b (ep true) el (wipeE vs ρ1) (enc a) true (F a)) : eLc vs src b (ep true) el ρ = some (as.map F, ρ1) := by
  have := lc_val enc F (fun _ => true) as hs hm hl h
  rwa [List.filter_eq_self.mpr fun _ _ => rfl] at this
theorem lcM_map (enc F : α → D) (as : List α) {vs : List Nat} {i : Nat} {b : Bd} {el : ES D} {ρ : En} (hs : ρ[i]? = some (some (.m (as.map enc)))) (hm : anyM ρ vs = false) (hl : as.length ≤ 16777216)
    (h : ∀ a ∈ as, Turn vs b (ep true) el (wipeE vs ρ) (enc a) true (F a)) : eLcM vs i b (ep true) el ρ = some (as.map F, ρ) := by
  have := lcM_val enc F (fun _ => true) as hs hm hl h
  rwa [List.filter_eq_self.mpr fun _ _ => rfl] at this
/-- over a slot's list, one name, no test, nothing changes: as a function that runs -/
def lcQ (v : Nat) (el : ES D) (ρ0 : En) : List D → Option (List D)
  | [] => some []
  | x :: r => match el (ρ0.set v (some (.d x))) with
    | none => none
    | some (y, _) => match lcQ v el ρ0 r with
      | none => none
      | some ys => some (y :: ys)
def eLcQ (v i : Nat) (el : ES D) : ES (List D) := fun ρ => match eM i ρ with
  | none => none
  | some (xs, _) => match isM ρ v with
    | true => none
    | false => match lcQ v el (ρ.set v none) xs with
      | none => none
      | some ys => match fits ys.length with
        | true => some (ys, ρ)
        | false => none
theorem lcP_Q {v : Nat} {el : ES D} (hel : ∀ ρ y ρ', el ρ = some (y, ρ') → ρ' = ρ) (ρ : En) : ∀ xs : List D, lcP [v] (bd v) (ep true) el (ρ.set v none) xs (ρ.set v none) = match lcQ v el (ρ.set v none) xs with
    | none => none
    | some ys => some (ys, ρ.set v none)
  | [] => rfl
  | x :: r => by
    have hm : isM (ρ.set v none) v = false := by
      rw [x_isM, List.getElem?_set]
      by_cases h : v < ρ.length
      · simp [h]
      · simp [h]
    have hb : bd v x (ρ.set v none) = some (ρ.set v (some (.d x))) := by rw [x_bd, hm]; simp
    unfold lcP lcQ
    simp only [hb, x_ep, List.set_set]
    cases q : el (ρ.set v (some (.d x))) with
    | none => rfl
    | some p =>
      obtain ⟨y, ρ'⟩ := p
      obtain rfl := hel _ _ _ q
      simp only [wipeE, List.set_set, if_pos, lcP_Q hel ρ r]
      cases lcQ v el (ρ.set v none) r <;> rfl
theorem eLcM_Q {v i : Nat} {el : ES D} (hel : ∀ ρ y ρ', el ρ = some (y, ρ') → ρ' = ρ) : eLcM [v] i (bd v) (ep true) el = eLcQ v i el := by
  funext ρ
  unfold eLcM eLcQ
  cases q : eM i ρ with
  | none => rfl
  | some p =>
    obtain ⟨xs, ρ1⟩ := p
    obtain ⟨_, rfl⟩ := eM_some q
    have ha : anyM ρ1 [v] = isM ρ1 v := by unfold anyM anyM; rw [Bool.or_false]
    simp only [ha]
    cases isM ρ1 v with
    | true => rfl
    | false =>
      have hw : wipeE [v] ρ1 = ρ1.set v none := rfl
      simp only [hw, lcP_Q hel]
      cases lcQ v el (ρ1.set v none) xs with
      | none => rfl
      | some ys =>
        simp only
        cases fits ys.length with
        | false => rfl
        | true =>
          simp only
          have := rest_wipe ρ1 [v]
          rw [hw] at this
          rw [this]
def PureE (f : ES D) : Prop := ∀ ρ y ρ', f ρ = some (y, ρ') → ρ' = ρ
theorem pure_V {i : Nat} : PureE (eV i) := fun ρ y ρ' h => by
  rw [x_eV] at h
  split at h <;> cases h
  rfl
theorem pure_2 {g : D → D → Option D} {f f' : ES D} (h1 : PureE f) (h2 : PureE f') : PureE (e2 g f f') := fun ρ y ρ' h => by
  rw [x_e2] at h
  cases q : f ρ with
  | none => rw [q] at h; cases h
  | some p =>
    obtain ⟨x, ρ1⟩ := p
    rw [q] at h
    simp only at h
    cases q2 : f' ρ1 with
    | none => rw [q2] at h; cases h
    | some p =>
      obtain ⟨x2, ρ2⟩ := p
      rw [q2] at h
      simp only at h
      cases q3 : g x x2 with
      | none => rw [q3] at h; cases h
      | some z =>
        rw [q3] at h
        cases h
        rw [h2 _ _ _ q2, h1 _ _ _ q]
end
theorem boolsD_mapf {α : Type} (f : α → Bool) : ∀ as : List α, boolsD (as.map fun a => PyData.bool (f a)) = some (as.map f)
  | [] => rfl
  | a :: as => by simp only [List.map_cons, boolsD, boolsD_mapf f as]
theorem gAll_map {α : Type} (f : α → Bool) (as : List α) : gAll (.list (as.map fun a => PyData.bool (f a))) = some (.bool (as.all f)) := by
  unfold gAll
  simp only [boolsD_mapf, List.all_map]
  rfl
theorem gAny_map {α : Type} (f : α → Bool) (as : List α) : gAny (.list (as.map fun a => PyData.bool (f a))) = some (.bool (as.any f)) := by
  unfold gAny
  simp only [boolsD_mapf, List.any_map]
  rfl
end CS
set_option Elab.async false
set_option linter.all false
set_option maxRecDepth 100000
set_option maxHeartbeats 4000000
set_option autoImplicit false
namespace CS
open PySem PySem.Spec PyProof.Rows L2
noncomputable def s_is_integer : SS :=
  (sR (eAndV (e1 (gIsi "int") (eV 0)) (eNotV (e1 (gIsi "bool") (eV 0)))))
noncomputable def g_is_integer : List D → Option D := fnD 1 0 s_is_integer
noncomputable abbrev gm_is_integer : List D → Option D := g_is_integer
noncomputable def s_are_integers : SS :=
  (sR (eAndV (e1 (gIsi "tuple") (eV 0)) (eAndV (e2 gEq (e1 gLen (eV 0)) (eV 1)) (e1 gAll (eL (eLc [2] (eIs (eV 0)) (bd 2) (ep true) (eAs gm_is_integer (eAc (eV 2) eAn))))))))
noncomputable def g_are_integers : List D → Option D := fnD 2 1 s_are_integers
noncomputable abbrev gm_are_integers : List D → Option D := g_are_integers
noncomputable def s_common : SS :=
  (sSq (sPar [0, 1] [(Itm.e (e1 gAbs (eV 0))), (Itm.e (e1 gAbs (eV 1)))])
  (sSq (sWh (eT (e2 gGt (eV 1) (ep (.int 0)))) (sPar [0, 1] [(Itm.e (eV 1)), (Itm.e (e2 gMod (eV 0) (eV 1)))]))
  (sR (eV 0))))
noncomputable def g_common : List D → Option D := fnD 2 0 s_common
def gm_common : List D → Option D
  | [.int a, .int b] => some (.int (Int.gcd a b : Nat))
  | _ => none
theorem wl_common : ∀ (b a : Nat), ∃ n, whileN n (eT (e2 gGt (eV 1) (ep (.int 0)))) (sPar [0, 1] [(Itm.e (eV 1)), (Itm.e (e2 gMod (eV 0) (eV 1)))]) [some (.d (.int a)), some (.d (.int b))] = some (.nx, [some (.d (.int (Nat.gcd a b : Nat))), some (.d (.int 0))]) := fun b => by
  induction b using Nat.strongRecOn with
  | ind b ih =>
    intro a
    by_cases hb : b = 0
    · subst hb
      refine ⟨1, ?_⟩
      rw [wh_1]
      simp
    · obtain ⟨n, hn⟩ := ih (a % b) (Nat.mod_lt _ (Nat.pos_of_ne_zero hb)) b
      refine ⟨n + 1, ?_⟩
      rw [wh_1]
      have h1 : (b : Int) ≠ 0 := by omega
      have h2 : (0 : Int) < b := by omega
      have h3 : (a : Int).fmod b = ((a % b : Nat) : Int) := by rw [Int.fmod_eq_emod_of_nonneg _ (by omega)]; rfl
      simp [h1, h2, h3, hb, Nat.pos_of_ne_zero hb]
      rw [show ((a % b : Nat) : Int) = (a : Int) % (b : Int) from rfl] at hn
      rw [hn, show Nat.gcd b (a % b) = Nat.gcd a b from by rw [Nat.gcd_comm a b, Nat.gcd_rec b a, Nat.gcd_comm]]
theorem m_common : ∀ (xs : List D) (z : D), gm_common xs = some z → g_common xs = some z := fun xs z h => by
  unfold gm_common at h
  split at h
  · rename_i a b
    cases h
    obtain ⟨n, hn⟩ := wl_common b.natAbs a.natAbs
    unfold g_common fnD s_common
    simp [sWh_of n hn]
    rfl
  · cases h
noncomputable def s_divisor_of : SS :=
  (sSq (sA 1 (ep (.int 0)))
  (sSq (sFor (eIs (eV 0)) (bd 2) (sA 1 (eAs gm_common (eAc (eV 1) (eAc (eV 2) eAn)))))
  (sR (eV 1))))
noncomputable def g_divisor_of : List D → Option D := fnD 1 2 s_divisor_of
noncomputable abbrev gm_divisor_of : List D → Option D := g_divisor_of
noncomputable def s_lowest : SS :=
  (sSq (sA 2 (eAs gm_common (eAc (eV 0) (eAc (eV 1) eAn))))
  (sSq (sIf (eT (e2 gLtX (eV 1) (ep (.int 0)))) (sA 2 (e1 gNeg (eV 2))) sNx)
  (sR (eAs gTp (eAc (e2 gFdiv (eV 0) (eV 2)) (eAc (e2 gFdiv (eV 1) (eV 2)) eAn))))))
noncomputable def g_lowest : List D → Option D := fnD 2 1 s_lowest
noncomputable abbrev gm_lowest : List D → Option D := g_lowest
noncomputable def s_added : SS :=
  (sR (eAs gm_lowest (eAc (e2 gAdd (e2 gMul (e2 gIx (eV 0) (ep (.int 0))) (e2 gIx (eV 1) (ep (.int 1)))) (e2 gMul (e2 gIx (eV 1) (ep (.int 0))) (e2 gIx (eV 0) (ep (.int 1))))) (eAc (e2 gMul (e2 gIx (eV 0) (ep (.int 1))) (e2 gIx (eV 1) (ep (.int 1)))) eAn))))
noncomputable def g_added : List D → Option D := fnD 2 0 s_added
noncomputable abbrev gm_added : List D → Option D := g_added
noncomputable def s_scaled : SS :=
  (sR (eAs gm_lowest (eAc (e2 gMul (eV 0) (e2 gIx (eV 1) (ep (.int 0)))) (eAc (e2 gIx (eV 1) (ep (.int 1))) eAn))))
noncomputable def g_scaled : List D → Option D := fnD 2 0 s_scaled
noncomputable abbrev gm_scaled : List D → Option D := g_scaled
noncomputable def s_summed : SS :=
  (sSq (sA 1 (eAs gTp (eAc (ep (.int 0)) (eAc (ep (.int 1)) eAn))))
  (sSq (sFor (eIs (eV 0)) (bd 2) (sA 1 (eAs gm_added (eAc (eV 1) (eAc (eV 2) eAn)))))
  (sR (eV 1))))
noncomputable def g_summed : List D → Option D := fnD 1 2 s_summed
noncomputable abbrev gm_summed : List D → Option D := g_summed
noncomputable def s_is_below : SS :=
  (sR (e2 gLtX (e2 gMul (e2 gIx (eV 0) (ep (.int 0))) (e2 gIx (eV 1) (ep (.int 1)))) (e2 gMul (e2 gIx (eV 1) (ep (.int 0))) (e2 gIx (eV 0) (ep (.int 1))))))
noncomputable def g_is_below : List D → Option D := fnD 2 0 s_is_below
noncomputable abbrev gm_is_below : List D → Option D := g_is_below
noncomputable def s_value_at : SS :=
  (sR (eAs gm_summed (eAc (eL (eLc [2, 3] (eAs zipG (eAc (eV 0) (eAc (eV 1) eAn))) (bdT 2 (bdCons (bd 2) (bdCons (bd 3) bdNil))) (ep true) (eAs gm_scaled (eAc (eV 2) (eAc (eV 3) eAn))))) eAn)))
noncomputable def g_value_at : List D → Option D := fnD 2 2 s_value_at
noncomputable abbrev gm_value_at : List D → Option D := g_value_at
noncomputable def s_is_kind : SS :=
  (sSq (sIf (eOr (eNot (eT (e1 (gIsi "tuple") (eV 0)))) (eOr (eNot (eT (eCh gLe gLe (ep (.int 1)) (e1 gLen (eV 0)) (ep (.int 5))))) (eNot (eT (eAs gm_are_integers (eAc (eV 0) (eAc (e1 gLen (eV 0)) eAn))))))) (sR (ep (.bool false))) sNx)
  (sR (eAndV (e1 gAll (eL (eLc [1] (eIs (eV 0)) (bd 1) (ep true) (e2 gLe (e1 gAbs (eV 1)) (ep (.int 20)))))) (e2 gEq (eAs gm_divisor_of (eAc (eV 0) eAn)) (ep (.int 1))))))
noncomputable def g_is_kind : List D → Option D := fnD 1 1 s_is_kind
noncomputable abbrev gm_is_kind : List D → Option D := g_is_kind
noncomputable def s_is_book : SS :=
  (sSq (sIf (eOr (eNot (eT (e1 (gIsi "list") (eV 0)))) (eOr (eNot (eT (eCh gLe gLe (ep (.int 1)) (e1 gLen (eV 0)) (ep (.int 12))))) (eNot (eT (e1 gAll (eL (eLc [1] (eIs (eV 0)) (bd 1) (ep true) (eAs gm_is_kind (eAc (eV 1) eAn))))))))) (sR (ep (.bool false))) sNx)
  (sSq (sIf (eNot (eT (e1 gAll (eL (eLc [1] (eIs (eV 0)) (bd 1) (ep true) (e2 gEq (e1 gLen (eV 1)) (e1 gLen (e2 gIx (eV 0) (ep (.int 0)))))))))) (sR (ep (.bool false))) sNx)
  (sR (e1 gAll (eL (eLc [1, 2] (eAs zipG (eAc (eV 0) (eAc (eSl (eV 0) (e1 intD (ep (.int 1))) (ep none)) eAn))) (bdT 2 (bdCons (bd 1) (bdCons (bd 2) bdNil))) (ep true) (e2 gLtX (eV 1) (eV 2))))))))
noncomputable def g_is_book : List D → Option D := fnD 1 2 s_is_book
noncomputable abbrev gm_is_book : List D → Option D := g_is_book
noncomputable def s_is_fraction : SS :=
  (sR (eAndV (eAs gm_are_integers (eAc (eV 0) (eAc (ep (.int 2)) eAn))) (eAndV (e2 gGt (e2 gIx (eV 0) (ep (.int 1))) (ep (.int 0))) (e2 gEq (eAs gm_common (eAc (e2 gIx (eV 0) (ep (.int 0))) (eAc (e2 gIx (eV 0) (ep (.int 1))) eAn))) (ep (.int 1))))))
noncomputable def g_is_fraction : List D → Option D := fnD 1 0 s_is_fraction
noncomputable abbrev gm_is_fraction : List D → Option D := g_is_fraction
noncomputable def s_is_rule_of : SS :=
  (sSq (sIf (eOr (eNot (eT (e1 (gIsi "tuple") (eV 1)))) (eOr (eT (e2 gNe (e1 gLen (eV 1)) (ep (.int 2)))) (eNot (eT (eAs gm_is_integer (eAc (e2 gIx (eV 1) (ep (.int 0))) eAn)))))) (sR (ep (.bool false))) sNx)
  (sR (eAndV (eCh gLe gLtX (ep (.int 0)) (e2 gIx (eV 1) (ep (.int 0))) (e1 gLen (eV 0))) (eAs gm_is_fraction (eAc (e2 gIx (eV 1) (ep (.int 1))) eAn)))))
noncomputable def g_is_rule_of : List D → Option D := fnD 2 0 s_is_rule_of
noncomputable abbrev gm_is_rule_of : List D → Option D := g_is_rule_of
noncomputable def s_are_bounds : SS :=
  (sSq (sIf (eOr (eNot (eT (e1 (gIsi "list") (eV 1)))) (eT (e2 gNe (e1 gLen (eV 1)) (e1 gLen (eV 0))))) (sR (ep (.bool false))) sNx)
  (sR (e1 gAll (eL (eLc [2] (eIs (eV 1)) (bd 2) (ep true) (eOrV (e2 gIs (eV 2) (ep .none)) (eAs gm_is_fraction (eAc (eV 2) eAn))))))))
noncomputable def g_are_bounds : List D → Option D := fnD 2 1 s_are_bounds
noncomputable abbrev gm_are_bounds : List D → Option D := g_are_bounds
noncomputable def s_need_book : SS :=
  (sIf (eNot (eT (eAs gm_is_book (eAc (eV 0) eAn)))) sNo sNx)
noncomputable def g_need_book : List D → Option D := fnD 1 0 s_need_book
noncomputable abbrev gm_need_book : List D → Option D := g_need_book
noncomputable def s_need_world : SS :=
  (sIf (eNot (eT (eAs gm_are_bounds (eAc (eV 0) (eAc (eV 1) eAn))))) sNo sNx)
noncomputable def g_need_world : List D → Option D := fnD 2 0 s_need_world
noncomputable abbrev gm_need_world : List D → Option D := g_need_world
noncomputable def s_need_number : SS :=
  (sIf (eOr (eNot (eT (eAs gm_is_integer (eAc (eV 0) eAn)))) (eOr (eT (e2 gLtX (eV 0) (eV 1))) (eAnd (eT (e2 gIsNot (eV 2) (ep .none))) (eT (e2 gGt (eV 0) (eV 2)))))) sNo sNx)
noncomputable def g_need_number : List D → Option D := fnD 3 0 s_need_number
noncomputable abbrev gm_need_number : List D → Option D := g_need_number
noncomputable def s_least_bounds : SS :=
  (sSq (sAN 2 (e2 gRepN (eL (eAs gLs (eAc (ep .none) eAn))) (e1 gLen (eV 0))))
  (sSq (sFor (eIs (eV 1)) (bdT 2 (bdCons (bd 3) (bdCons (bd 4) bdNil))) (sIf (eOr (eT (e2 gIs (e2L gIx 2 (eV 3)) (ep .none))) (eT (eAs gm_is_below (eAc (eV 4) (eAc (e2L gIx 2 (eV 3)) eAn))))) (sSt 2 (eV 4) (eV 3)) sNx))
  (sFz [2] (sR (eV 2)))))
noncomputable def g_least_bounds : List D → Option D := fnD 2 3 s_least_bounds
noncomputable abbrev gm_least_bounds : List D → Option D := g_least_bounds
noncomputable def s_against : SS :=
  (sSq (sPar [2, 3, 4] [(Itm.e (eL (e1 itemsD (eV 1)))), (Itm.e (ep (.int 1))), (Itm.n (e2 gRepN (eL (eAs gLs (eAc (ep (.int 0)) eAn))) (e1 gLen (eV 0))))])
  (sSq (sFor (eIs (eV 0)) (bdT 3 (bdCons (bd 5) (bdCons (bd 6) (bdCons (bd 7) bdNil)))) (sSq (sPar [8, 9] [(Itm.e (e2 gIx (eV 2) (eV 5))), (Itm.e (e2 gIx (eV 6) (eV 5)))])
  (sIf (eT (e2 gNe (eV 8) (ep (.int 0)))) (sSq (sA 2 (eL (eLc [12, 13] (eAs zipG (eAc (eV 2) (eAc (eV 6) eAn))) (bdT 2 (bdCons (bd 12) (bdCons (bd 13) bdNil))) (ep true) (e2 gSub (e2 gMul (eV 9) (eV 12)) (e2 gMul (eV 8) (eV 13))))))
  (sSq (sA 3 (e2 gMul (eV 3) (eV 9)))
  (sSq (sAN 4 (eLcM [12] 4 (bd 12) (ep true) (e2 gMul (eV 9) (eV 12))))
  (sFor (eAs enuG (eAc (eV 7) eAn)) (bdT 2 (bdCons (bd 10) (bdCons (bd 11) bdNil))) (sSt 4 (e2 gAdd (e2L gIx 4 (eV 10)) (e2 gMul (eV 8) (eV 11))) (eV 10)))))) sNx)))
  (sFz [4] (sR (eAs gTp (eAc (eV 2) (eAc (eV 3) (eAc (eV 4) eAn))))))))
noncomputable def g_against : List D → Option D := fnD 2 12 s_against
noncomputable def s2_against : SS :=
  (sSq (sPar [2, 3, 4] [(Itm.e (eL (e1 itemsD (eV 1)))), (Itm.e (ep (.int 1))), (Itm.n (e2 gRepN (eL (eAs gLs (eAc (ep (.int 0)) eAn))) (e1 gLen (eV 0))))])
  (sSq (sFor (eIs (eV 0)) (bdT 3 (bdCons (bd 5) (bdCons (bd 6) (bdCons (bd 7) bdNil)))) (sSq (sPar [8, 9] [(Itm.e (e2 gIx (eV 2) (eV 5))), (Itm.e (e2 gIx (eV 6) (eV 5)))])
  (sIf (eT (e2 gNe (eV 8) (ep (.int 0)))) (sSq (sA 2 (eL (eLc [12, 13] (eAs zipG (eAc (eV 2) (eAc (eV 6) eAn))) (bdT 2 (bdCons (bd 12) (bdCons (bd 13) bdNil))) (ep true) (e2 gSub (e2 gMul (eV 9) (eV 12)) (e2 gMul (eV 8) (eV 13))))))
  (sSq (sA 3 (e2 gMul (eV 3) (eV 9)))
  (sSq (sAN 4 (eLcQ 12 4 (e2 gMul (eV 9) (eV 12))))
  (sFor (eAs enuG (eAc (eV 7) eAn)) (bdT 2 (bdCons (bd 10) (bdCons (bd 11) bdNil))) (sSt 4 (e2 gAdd (e2L gIx 4 (eV 10)) (e2 gMul (eV 8) (eV 11))) (eV 10)))))) sNx)))
  (sFz [4] (sR (eAs gTp (eAc (eV 2) (eAc (eV 3) (eAc (eV 4) eAn))))))))
noncomputable def gm_against : List D → Option D := fnD 2 12 s2_against
theorem m_against : ∀ (xs : List D) (z : D), gm_against xs = some z → g_against xs = some z := fun xs z h => by
  have e : s_against = s2_against := by
    unfold s_against s2_against
    rw [eLcM_Q (pure_2 pure_V pure_V)]
  unfold g_against
  rw [e]
  exact h
noncomputable def s_row_of : SS :=
  (sSq (sA 3 (e2 gIx (eL (eLc [5, 6] (eAs enuG (eAc (eV 0) eAn)) (bdT 2 (bdCons (bd 5) (bdCons (bd 6) bdNil))) (eT (e2 gNe (eV 6) (ep (.int 0)))) (eV 5))) (ep (.int 0))))
  (sSq (sA 4 (eAs gm_divisor_of (eAc (eL (eAs gLs (eAst (eV 0) (eAc (eV 1) (eAst (eV 2) eAn))))) eAn)))
  (sSq (sIf (eT (e2 gLtX (e2 gIx (eV 0) (eV 3)) (ep (.int 0)))) (sA 4 (e1 gNeg (eV 4))) sNx)
  (sR (eAs gTp (eAc (eV 3) (eAc (eL (eLc [6] (eIs (eV 0)) (bd 6) (ep true) (e2 gFdiv (eV 6) (eV 4)))) (eAc (eL (eAs gLs (eAst (eL (eLc [7] (eIs (eV 2)) (bd 7) (ep true) (e1 gNeg (e2 gFdiv (eV 7) (eV 4))))) (eAc (e2 gFdiv (eV 1) (eV 4)) eAn)))) eAn))))))))
noncomputable def g_row_of : List D → Option D := fnD 3 5 s_row_of
noncomputable abbrev gm_row_of : List D → Option D := g_row_of
noncomputable def s_with_row : SS :=
  (sSq (sTg (eAs gm_against (eAc (eV 0) (eAc (eV 1) eAn))) (bdT 3 (bdCons (bd 2) (bdCons (bd 3) (bdCons (bd 4) bdNil)))))
  (sR (eIf (eT (e1 anyG (eV 2))) (eL (eAs gLs (eAst (eV 0) (eAc (eAs gm_row_of (eAc (eV 2) (eAc (eV 3) (eAc (eV 4) eAn)))) eAn)))) (ep .none))))
noncomputable def g_with_row : List D → Option D := fnD 2 3 s_with_row
noncomputable abbrev gm_with_row : List D → Option D := g_with_row
noncomputable def s_ways_behind (self : List D → Option D) : SS :=
  (sSq (sTg (eAs gm_against (eAc (eV 4) (eAc (eV 1) eAn))) (bdT 3 (bdCons (bd 5) (bdCons (bd 6) (bdCons (bd 7) bdNil)))))
  (sSq (sIf (eT (e2 gEq (eV 5) (e2 gMul (eL (eAs gLs (eAc (ep (.int 0)) eAn))) (e1 gLen (eV 5))))) (sSq (sIf (eT (e1 gAll (eL (eLc [11] (eIs (eV 7)) (bd 11) (ep true) (e2 gGt (eV 11) (ep (.int 0))))))) (sR (eL (eAs gLs (eAc (eAs gTp (eAc (eV 3) (eAc (eV 7) (eAc (eV 6) eAn)))) eAn)))) sNx)
  (sR (eL (eAs gLs eAn)))) sNx)
  (sSq (sAN 8 (eAs gLs eAn))
  (sSq (sFor (eAs rng2 (eAc (eV 2) (eAc (e1 gLen (eV 0)) eAn))) (bd 9) (sSq (sA 10 (eAs gm_with_row (eAc (eV 4) (eAc (e2 gIx (eV 0) (eV 9)) eAn))))
  (sIf (eT (e2 gIsNot (eV 10) (ep .none))) (sE (eGrow 8 (eLs (eAs self (eAc (eV 0) (eAc (eV 1) (eAc (e2 gAdd (eV 9) (ep (.int 1))) (eAc (eL (eAs gLs (eAst (eV 3) (eAc (eV 9) eAn)))) (eAc (eV 10) eAn))))))))) sNx)))
  (sFz [8] (sR (eV 8)))))))
noncomputable def r_ways_behind : Nat → List D → Option D
  | 0 => fun _ => none
  | n + 1 => fnD 5 7 (s_ways_behind (r_ways_behind n))
noncomputable def g_ways_behind : List D → Option D := r_ways_behind 8
noncomputable abbrev gm_ways_behind : List D → Option D := g_ways_behind
noncomputable def s_positive_ways : SS :=
  (sR (eAs gm_ways_behind (eAc (eV 0) (eAc (eV 1) (eAc (ep (.int 0)) (eAc (eL (eAs gLs eAn)) (eAc (eL (eAs gLs eAn)) eAn)))))))
noncomputable def g_positive_ways : List D → Option D := fnD 2 0 s_positive_ways
noncomputable abbrev gm_positive_ways : List D → Option D := g_positive_ways
noncomputable def s_knots_behind (self : List D → Option D) : SS :=
  (sSq (sAN 4 (eAs gLs eAn))
  (sSq (sFor (eAs rng2 (eAc (eV 1) (eAc (e1 gLen (eV 0)) eAn))) (bd 5) (sSq (sTg (eAs gm_against (eAc (eV 3) (eAc (e2 gIx (eV 0) (eV 5)) eAn))) (bdT 3 (bdCons (bd 6) (bdCons (bd 7) (bdCons (bd 8) bdNil)))))
  (sIf (eT (e1 anyG (eV 6))) (sSq (sA 9 (eL (eAs gLs (eAst (eV 3) (eAc (eAs gm_row_of (eAc (eV 6) (eAc (eV 7) (eAc (eV 8) eAn)))) eAn)))))
  (sE (eGrow 4 (eLs (eAs self (eAc (eV 0) (eAc (e2 gAdd (eV 5) (ep (.int 1))) (eAc (eL (eAs gLs (eAst (eV 2) (eAc (eV 5) eAn)))) (eAc (eV 9) eAn))))))))) (sIf (eT (e2 gLtX (e1 gMax (eL (eAs gLs (eAc (e1 gNeg (ep (.int 1))) (eAst (eV 8) eAn))))) (ep (.int 0)))) (sSq (sA 10 (eAs gm_divisor_of (eAc (eL (eAs gLs (eAst (eV 8) (eAc (eV 7) eAn)))) eAn)))
  (sE (eGrow 4 (eb (eL (eAs gLs (eAst (eL (eLc [11, 12] (eAs zipG (eAc (eV 2) (eAc (eV 8) eAn))) (bdT 2 (bdCons (bd 11) (bdCons (bd 12) bdNil))) (ep true) (eAs gTp (eAc (eV 11) (eAc (e2 gFdiv (e1 gNeg (eV 12)) (eV 10)) eAn))))) (eAc (eAs gTp (eAc (eV 5) (eAc (e2 gFdiv (eV 7) (eV 10)) eAn))) eAn)))) fun x => ep [x])))) sNx))))
  (sFz [4] (sR (eV 4)))))
noncomputable def r_knots_behind : Nat → List D → Option D
  | 0 => fun _ => none
  | n + 1 => fnD 4 9 (s_knots_behind (r_knots_behind n))
noncomputable def g_knots_behind : List D → Option D := r_knots_behind 8
noncomputable abbrev gm_knots_behind : List D → Option D := g_knots_behind
noncomputable def s_knots_of : SS :=
  (sR (eL (e1 gSort (eAs gm_knots_behind (eAc (eV 0) (eAc (ep (.int 0)) (eAc (eL (eAs gLs eAn)) (eAc (eL (eAs gLs eAn)) eAn))))))))
noncomputable def g_knots_of : List D → Option D := fnD 1 0 s_knots_of
noncomputable abbrev gm_knots_of : List D → Option D := g_knots_of
noncomputable def s_knots_in : SS :=
  (sR (eAs gm_knots_of (eAc (eV 0) eAn)))
noncomputable def g_knots_in : List D → Option D := fnD 1 0 s_knots_in
noncomputable abbrev gm_knots_in : List D → Option D := g_knots_in
noncomputable def s_sum_in : SS :=
  (sSq (sIf (eT (e1 gAny (eL (eLc [2, 3] (eIs (eV 0)) (bdT 2 (bdCons (bd 2) (bdCons (bd 3) bdNil))) (ep true) (e2 gIs (e2 gIx (eV 1) (eV 2)) (ep .none)))))) (sR (ep .none)) sNx)
  (sR (eAs gm_summed (eAc (eL (eLc [2, 3] (eIs (eV 0)) (bdT 2 (bdCons (bd 2) (bdCons (bd 3) bdNil))) (ep true) (eAs gm_scaled (eAc (eV 3) (eAc (e2 gIx (eV 1) (eV 2)) eAn))))) eAn))))
noncomputable def g_sum_in : List D → Option D := fnD 2 2 s_sum_in
noncomputable abbrev gm_sum_in : List D → Option D := g_sum_in
noncomputable def s_is_broken : SS :=
  (sSq (sA 2 (eAs gm_sum_in (eAc (eV 0) (eAc (eV 1) eAn))))
  (sR (eAndV (e2 gIsNot (eV 2) (ep .none)) (e2 gLtX (e2 gIx (eV 2) (ep (.int 0))) (ep (.int 0))))))
noncomputable def g_is_broken : List D → Option D := fnD 2 1 s_is_broken
noncomputable abbrev gm_is_broken : List D → Option D := g_is_broken
noncomputable def s_point_of_rows : SS :=
  (sSq (sAN 3 (e2 gRepN (eL (eAs gLs (eAc (eAs gTp (eAc (ep (.int 0)) (eAc (ep (.int 1)) eAn))) eAn))) (eV 2)))
  (sSq (sFor (eIs (eL (e1 (fun x => (lD x).map List.reverse) (eV 0)))) (bdT 3 (bdCons (bd 4) (bdCons (bd 5) (bdCons (bd 6) bdNil)))) (sSq (sA 7 (eAs gm_summed (eAc (eL (eLc [13, 14] (eAs zipG (eAc (eV 6) (eAc (eV 1) eAn))) (bdT 2 (bdCons (bd 13) (bdCons (bd 14) bdNil))) (ep true) (eAs gm_scaled (eAc (eV 13) (eAc (eV 14) eAn))))) eAn)))
  (sSq (sA 8 (eL (eLc [11, 12] (eAs enuG (eAc (eV 5) eAn)) (bdT 2 (bdCons (bd 11) (bdCons (bd 12) bdNil))) (eT (e2 gNe (eV 11) (eV 4))) (eAs gm_scaled (eAc (e1 gNeg (eV 12)) (eAc (e2L gIx 3 (eV 11)) eAn))))))
  (sSq (sTg (eAs gm_added (eAc (eV 7) (eAc (eAs gm_summed (eAc (eV 8) eAn)) eAn))) (bdT 2 (bdCons (bd 9) (bdCons (bd 10) bdNil))))
  (sSt 3 (eAs gm_lowest (eAc (eV 9) (eAc (e2 gMul (eV 10) (e2 gIx (eV 5) (eV 4))) eAn))) (eV 4))))))
  (sR (e1 gTuple (eMb 3)))))
noncomputable def g_point_of_rows : List D → Option D := fnD 3 12 s_point_of_rows
noncomputable abbrev gm_point_of_rows : List D → Option D := g_point_of_rows
noncomputable def s_within_bounds : SS :=
  (sSq (sFor (eAs zipG (eAc (eV 0) (eAc (eV 1) eAn))) (bdT 2 (bdCons (bd 3) (bdCons (bd 4) bdNil))) (sIf (eT (eAs gm_is_below (eAc (eV 4) (eAc (eAs gm_value_at (eAc (eV 3) (eAc (eV 2) eAn))) eAn)))) (sR (ep (.bool false))) sNx))
  (sR (ep (.bool true))))
noncomputable def g_within_bounds : List D → Option D := fnD 3 2 s_within_bounds
noncomputable abbrev gm_within_bounds : List D → Option D := g_within_bounds
noncomputable def s_face_point (self : List D → Option D) : SS :=
  (sSq (sA 5 (ep (.bool false)))
  (sSq (sFor (eAs rng2 (eAc (eV 2) (eAc (e1 gLen (eV 0)) eAn))) (bd 6) (sSq (sA 7 (eAs gm_with_row (eAc (eV 4) (eAc (e2 gIx (eV 0) (eV 6)) eAn))))
  (sIf (eT (e2 gIsNot (eV 7) (ep .none))) (sSq (sA 5 (ep (.bool true)))
  (sSq (sA 8 (eAs self (eAc (eV 0) (eAc (eV 1) (eAc (e2 gAdd (eV 6) (ep (.int 1))) (eAc (eL (eAs gLs (eAst (eV 3) (eAc (eV 6) eAn)))) (eAc (eV 7) eAn)))))))
  (sIf (eT (e2 gIsNot (eV 8) (ep .none))) (sR (eV 8)) sNx))) sNx)))
  (sSq (sIf (eT (eV 5)) (sR (ep .none)) sNx)
  (sSq (sA 9 (eAs gm_point_of_rows (eAc (eV 4) (eAc (eL (eLc [6] (eIs (eV 3)) (bd 6) (ep true) (e2 gIx (eV 1) (eV 6)))) (eAc (e1 gLen (e2 gIx (eV 0) (ep (.int 0)))) eAn)))))
  (sR (eIf (eT (eAs gm_within_bounds (eAc (eV 0) (eAc (eV 1) (eAc (eV 9) eAn))))) (eV 9) (ep .none)))))))
noncomputable def r_face_point : Nat → List D → Option D
  | 0 => fun _ => none
  | n + 1 => fnD 5 5 (s_face_point (r_face_point n))
noncomputable def g_face_point : List D → Option D := r_face_point 8
noncomputable abbrev gm_face_point : List D → Option D := g_face_point
noncomputable def s_some_point : SS :=
  (sSq (sA 2 (eL (eLc [3, 4] (eAs zipG (eAc (eV 0) (eAc (eV 1) eAn))) (bdT 2 (bdCons (bd 3) (bdCons (bd 4) bdNil))) (eT (e2 gIsNot (eV 4) (ep .none))) (eAs gTp (eAc (eV 3) (eAc (eV 4) eAn))))))
  (sSq (sIf (eT (e2 gEq (eV 2) (eL (eAs gLs eAn)))) (sR (e2 gMul (eAs gTp (eAc (eAs gTp (eAc (ep (.int 0)) (eAc (ep (.int 1)) eAn))) eAn)) (e1 gLen (e2 gIx (eV 0) (ep (.int 0)))))) sNx)
  (sR (eAs gm_face_point (eAc (eL (eLc [3, 4] (eIs (eV 2)) (bdT 2 (bdCons (bd 3) (bdCons (bd 4) bdNil))) (ep true) (eV 3))) (eAc (eL (eLc [3, 4] (eIs (eV 2)) (bdT 2 (bdCons (bd 3) (bdCons (bd 4) bdNil))) (ep true) (eV 4))) (eAc (ep (.int 0)) (eAc (eL (eAs gLs eAn)) (eAc (eL (eAs gLs eAn)) eAn)))))))))
noncomputable def g_some_point : List D → Option D := fnD 2 3 s_some_point
noncomputable abbrev gm_some_point : List D → Option D := g_some_point
noncomputable def s_taken : SS :=
  (sR (eAs gm_lowest (eAc (e2 gMul (e2 gIx (eV 0) (ep (.int 0))) (e2 gIx (eV 1) (ep (.int 0)))) (eAc (e2 gMul (e2 gIx (eV 0) (ep (.int 1))) (e2 gIx (eV 1) (ep (.int 1)))) eAn))))
noncomputable def g_taken : List D → Option D := fnD 2 0 s_taken
noncomputable abbrev gm_taken : List D → Option D := g_taken
noncomputable def s_greatest_in : SS :=
  (sSq (sA 3 (eL (eLc [10, 11] (eAs enuG (eAc (eV 1) eAn)) (bdT 2 (bdCons (bd 10) (bdCons (bd 11) bdNil))) (eT (e2 gIsNot (eV 11) (ep .none))) (eV 10))))
  (sSq (sA 4 (ep .none))
  (sSq (sFor (eIs (eAs gm_positive_ways (eAc (eL (eLc [10] (eIs (eV 3)) (bd 10) (ep true) (e2 gIx (eV 0) (eV 10)))) (eAc (eV 2) eAn)))) (bdT 3 (bdCons (bd 5) (bdCons (bd 6) (bdCons (bd 7) bdNil)))) (sSq (sA 8 (eL (eLc [12, 13] (eAs zipG (eAc (eV 5) (eAc (eV 6) eAn))) (bdT 2 (bdCons (bd 12) (bdCons (bd 13) bdNil))) (ep true) (eAs gm_taken (eAc (eAs gTp (eAc (eV 13) (eAc (eV 7) eAn))) (eAc (e2 gIx (eV 1) (e2 gIx (eV 3) (eV 12))) eAn))))))
  (sSq (sA 9 (eAs gm_summed (eAc (eV 8) eAn)))
  (sIf (eOr (eT (e2 gIs (eV 4) (ep .none))) (eT (eAs gm_is_below (eAc (eV 9) (eAc (eV 4) eAn))))) (sA 4 (eV 9)) sNx))))
  (sR (eV 4)))))
noncomputable def g_greatest_in : List D → Option D := fnD 3 11 s_greatest_in
noncomputable abbrev gm_greatest_in : List D → Option D := g_greatest_in
noncomputable def s_need_points : SS :=
  (sIf (eT (e2 gIs (eAs gm_some_point (eAc (eV 0) (eAc (eV 1) eAn))) (ep .none))) sNo sNx)
noncomputable def g_need_points : List D → Option D := fnD 2 0 s_need_points
noncomputable abbrev gm_need_points : List D → Option D := g_need_points
noncomputable def s_need_one : SS :=
  (sSq (sE (eAs gm_need_book (eAc (eV 0) eAn)))
  (sE (eAs gm_need_world (eAc (eV 0) (eAc (eV 1) eAn)))))
noncomputable def g_need_one : List D → Option D := fnD 2 0 s_need_one
noncomputable abbrev gm_need_one : List D → Option D := g_need_one
noncomputable def s_tight_in : SS :=
  (sR (eL (eLc [2] (eIs (eV 0)) (bd 2) (ep true) (eAs gm_greatest_in (eAc (eV 0) (eAc (eV 1) (eAc (eV 2) eAn)))))))
noncomputable def g_tight_in : List D → Option D := fnD 2 1 s_tight_in
noncomputable abbrev gm_tight_in : List D → Option D := g_tight_in
noncomputable def s_tight : SS :=
  (sSq (sE (eAs gm_need_one (eAc (eV 0) (eAc (eV 1) eAn))))
  (sSq (sE (eAs gm_need_points (eAc (eV 0) (eAc (eV 1) eAn))))
  (sR (eAs gm_tight_in (eAc (eV 0) (eAc (eV 1) eAn))))))
noncomputable def g_tight : List D → Option D := fnD 2 0 s_tight
noncomputable abbrev gm_tight : List D → Option D := g_tight
noncomputable def s_meets : SS :=
  (sR (eNotV (e1 gAny (eL (eLc [2] (eIs (eV 0)) (bd 2) (ep true) (eAs gm_is_broken (eAc (eV 2) (eAc (eV 1) eAn))))))))
noncomputable def g_meets : List D → Option D := fnD 2 1 s_meets
noncomputable abbrev gm_meets : List D → Option D := g_meets
noncomputable def s_is_party : SS :=
  (sSq (sIf (eOr (eNot (eT (e1 (gIsi "list") (eV 1)))) (eT (e2 gGt (e1 gLen (eV 1)) (ep (.int 12))))) (sR (ep (.bool false))) sNx)
  (sR (e1 gAll (eL (eLc [2] (eIs (eV 1)) (bd 2) (ep true) (eAs gm_is_rule_of (eAc (eV 0) (eAc (eV 2) eAn))))))))
noncomputable def g_is_party : List D → Option D := fnD 2 1 s_is_party
noncomputable abbrev gm_is_party : List D → Option D := g_is_party
noncomputable def s_need_parties : SS :=
  (sSq (sIf (eOr (eNot (eT (e1 (gIsi "list") (eV 1)))) (eNot (eT (eCh gLe gLe (ep (.int 1)) (e1 gLen (eV 1)) (ep (.int 8)))))) sNo sNx)
  (sFor (eAs enuG (eAc (eV 1) eAn)) (bdT 2 (bdCons (bd 2) (bdCons (bd 3) bdNil))) (sIf (eNot (eT (eAs gm_is_party (eAc (eV 0) (eAc (eV 3) eAn))))) sNo sNx)))
noncomputable def g_need_parties : List D → Option D := fnD 2 2 s_need_parties
noncomputable abbrev gm_need_parties : List D → Option D := g_need_parties
noncomputable def s_need_book_and_parties : SS :=
  (sSq (sE (eAs gm_need_book (eAc (eV 0) eAn)))
  (sE (eAs gm_need_parties (eAc (eV 0) (eAc (eV 1) eAn)))))
noncomputable def g_need_book_and_parties : List D → Option D := fnD 2 0 s_need_book_and_parties
noncomputable abbrev gm_need_book_and_parties : List D → Option D := g_need_book_and_parties
noncomputable def s_bounds_of : SS :=
  (sR (eAs gm_least_bounds (eAc (eV 0) (eAc (eL (eLc2 [3, 4] [4] (eIs (eV 2)) (bd 3) (ep true) (eIs (e2 gIx (eV 1) (eV 3))) (bd 4) (ep true) (eV 4))) eAn))))
noncomputable def g_bounds_of : List D → Option D := fnD 3 2 s_bounds_of
noncomputable abbrev gm_bounds_of : List D → Option D := g_bounds_of
noncomputable def s_all_sets : SS :=
  (sSq (sPar [1, 2] [(Itm.n (eAs gLs (eAc (eL (eAs gLs eAn)) eAn))), (Itm.e (eL (eAs gLs (eAc (eL (eAs gLs eAn)) eAn))))])
  (sSq (sFor (eAs rng1 (eAc (eV 0) eAn)) (bd 3) (sSq (sA 2 (eL (eLc2 [4, 5] [5] (eIs (eV 2)) (bd 4) (ep true) (eAs rng2 (eAc (eIf (eT (e2 gNe (eV 4) (eL (eAs gLs eAn)))) (e2 gAdd (e2 gIx (eV 4) (e1 gNeg (ep (.int 1)))) (ep (.int 1))) (ep (.int 0))) (eAc (eV 0) eAn))) (bd 5) (ep true) (eL (eAs gLs (eAst (eV 4) (eAc (eV 5) eAn)))))))
  (sE (eGrow 1 (eLs (eV 2))))))
  (sFz [1] (sR (eV 1)))))
noncomputable def g_all_sets : List D → Option D := fnD 1 5 s_all_sets
noncomputable abbrev gm_all_sets : List D → Option D := g_all_sets
noncomputable def s_sets_by : SS :=
  (sSq (sPar [3, 4] [(Itm.n (eAs gLs eAn)), (Itm.e (eL (e1 rgL1 (eV 1))))])
  (sSq (sFor (eIs (eAs gm_all_sets (eAc (e1 gLen (eV 2)) eAn))) (bd 5) (sSq (sA 6 (e1 gAny (eL (eLcM [7] 3 (bd 7) (ep true) (e1 gAll (eL (eLc [8] (eIs (eV 7)) (bd 8) (ep true) (e2 gIn (eV 8) (eV 5)))))))))
  (sIf (eAnd (eNot (eT (eV 6))) (eNot (eT (eAs gm_meets (eAc (eV 0) (eAc (eAs gm_bounds_of (eAc (eV 4) (eAc (eV 2) (eAc (eV 5) eAn)))) eAn)))))) (sE (eGrow 3 (eb (eV 5) fun x => ep [x]))) sNx)))
  (sFz [3] (sR (eV 3)))))
noncomputable def g_sets_by : List D → Option D := fnD 3 6 s_sets_by
noncomputable abbrev gm_sets_by : List D → Option D := g_sets_by
noncomputable def s_clashing_sets : SS :=
  (sR (eAs gm_sets_by (eAc (eAs gm_knots_in (eAc (eV 0) eAn)) (eAc (e1 gLen (eV 0)) (eAc (eV 1) eAn)))))
noncomputable def g_clashing_sets : List D → Option D := fnD 2 0 s_clashing_sets
noncomputable abbrev gm_clashing_sets : List D → Option D := g_clashing_sets
noncomputable def s_meeting_sets : SS :=
  (sSq (sA 2 (eAs gm_clashing_sets (eAc (eV 0) (eAc (eV 1) eAn))))
  (sSq (sAN 3 (eAs gLs eAn))
  (sSq (sFor (eIs (eAs gm_all_sets (eAc (e1 gLen (eV 1)) eAn))) (bd 4) (sIf (eNot (eT (e1 gAny (eL (eLc [5] (eIs (eV 2)) (bd 5) (ep true) (e1 gAll (eL (eLc [6] (eIs (eV 5)) (bd 6) (ep true) (e2 gIn (eV 6) (eV 4)))))))))) (sE (eGrow 3 (eb (eV 4) fun x => ep [x]))) sNx))
  (sR (eL (eLcM [4] 3 (bd 4) (eT (e2 gEq (e1 gLen (eV 4)) (e1 gLen (e2L gIx 3 (e1 gNeg (ep (.int 1))))))) (eV 4)))))))
noncomputable def g_meeting_sets : List D → Option D := fnD 2 5 s_meeting_sets
noncomputable abbrev gm_meeting_sets : List D → Option D := g_meeting_sets
noncomputable def s_all_meet : SS :=
  (sSq (sE (eAs gm_need_book_and_parties (eAc (eV 0) (eAc (eV 1) eAn))))
  (sR (eAs gm_meets (eAc (eAs gm_knots_in (eAc (eV 0) eAn)) (eAc (eAs gm_bounds_of (eAc (eV 0) (eAc (eV 1) (eAc (eL (e1 rgL1 (e1 gLen (eV 1)))) eAn)))) eAn)))))
noncomputable def g_all_meet : List D → Option D := fnD 2 0 s_all_meet
noncomputable abbrev gm_all_meet : List D → Option D := g_all_meet
noncomputable def s_party_clashes : SS :=
  (sSq (sE (eAs gm_need_book_and_parties (eAc (eV 0) (eAc (eV 1) eAn))))
  (sR (eL (e1 gSort (eAs gm_clashing_sets (eAc (eV 0) (eAc (eV 1) eAn)))))))
noncomputable def g_party_clashes : List D → Option D := fnD 2 0 s_party_clashes
noncomputable abbrev gm_party_clashes : List D → Option D := g_party_clashes
noncomputable def s_crowds : SS :=
  (sSq (sE (eAs gm_need_book_and_parties (eAc (eV 0) (eAc (eV 1) eAn))))
  (sR (eL (e1 gSort (eAs gm_meeting_sets (eAc (eV 0) (eAc (eV 1) eAn)))))))
noncomputable def g_crowds : List D → Option D := fnD 2 0 s_crowds
noncomputable abbrev gm_crowds : List D → Option D := g_crowds
noncomputable def s_fewest_parties_out : SS :=
  (sSq (sE (eAs gm_need_book_and_parties (eAc (eV 0) (eAc (eV 1) eAn))))
  (sR (e2 gSub (e1 gLen (eV 1)) (e1 gLen (e2 gIx (eAs gm_meeting_sets (eAc (eV 0) (eAc (eV 1) eAn))) (ep (.int 0)))))))
noncomputable def g_fewest_parties_out : List D → Option D := fnD 2 0 s_fewest_parties_out
noncomputable abbrev gm_fewest_parties_out : List D → Option D := g_fewest_parties_out
noncomputable def s_meeting_place : SS :=
  (sSq (sE (eAs gm_need_book_and_parties (eAc (eV 0) (eAc (eV 1) eAn))))
  (sR (eAs gm_some_point (eAc (eV 0) (eAc (eAs gm_bounds_of (eAc (eV 0) (eAc (eV 1) (eAc (eL (e1 rgL1 (e1 gLen (eV 1)))) eAn)))) eAn)))))
noncomputable def g_meeting_place : List D → Option D := fnD 2 0 s_meeting_place
noncomputable abbrev gm_meeting_place : List D → Option D := g_meeting_place
noncomputable def s_combined : SS :=
  (sSq (sE (eAs gm_need_book_and_parties (eAc (eV 0) (eAc (eV 1) eAn))))
  (sR (eAs gm_tight (eAc (eV 0) (eAc (eAs gm_bounds_of (eAc (eV 0) (eAc (eV 1) (eAc (eL (e1 rgL1 (e1 gLen (eV 1)))) eAn)))) eAn)))))
noncomputable def g_combined : List D → Option D := fnD 2 0 s_combined
noncomputable abbrev gm_combined : List D → Option D := g_combined
noncomputable def s_with_items : SS :=
  (sSq (sAN 2 (e2 gRepN (eL (eAs gLs (eAc (ep (.int 0)) eAn))) (eV 0)))
  (sSq (sFor (eIs (eV 1)) (bdT 2 (bdCons (bd 3) (bdCons (bd 4) bdNil))) (sSt 2 (eV 4) (eV 3)))
  (sR (e1 gTuple (eMb 2)))))
noncomputable def g_with_items : List D → Option D := fnD 2 3 s_with_items
noncomputable abbrev gm_with_items : List D → Option D := g_with_items
noncomputable def s_boxes : SS :=
  (sSq (sE (eAs gm_need_number (eAc (eV 0) (eAc (ep (.int 1)) (eAc (ep (.int 5)) eAn)))))
  (sSq (sA 1 (eL (eLc [2] (eAs rng1 (eAc (eV 0) eAn)) (bd 2) (ep true) (eAs gm_with_items (eAc (eV 0) (eAc (eL (eAs gLs (eAc (eAs gTp (eAc (eV 2) (eAc (ep (.int 1)) eAn))) eAn))) eAn))))))
  (sR (eL (e1 gSort (e2 gAdd (eV 1) (eL (eLc [2] (eAs rng1 (eAc (eV 0) eAn)) (bd 2) (ep true) (eAs gm_with_items (eAc (eV 0) (eAc (eL (eAs gLs (eAc (eAs gTp (eAc (eV 2) (eAc (e1 gNeg (ep (.int 1))) eAn))) eAn))) eAn)))))))))))
noncomputable def g_boxes : List D → Option D := fnD 1 2 s_boxes
noncomputable abbrev gm_boxes : List D → Option D := g_boxes
noncomputable def s_need_ranges : SS :=
  (sSq (sIf (eOr (eNot (eT (e1 (gIsi "list") (eV 0)))) (eNot (eT (eCh gLe gLe (ep (.int 1)) (e1 gLen (eV 0)) (ep (.int 400)))))) sNo sNx)
  (sFor (eAs enuG (eAc (eV 0) eAn)) (bdT 2 (bdCons (bd 1) (bdCons (bd 2) bdNil))) (sIf (eOr (eNot (eT (eAs gm_are_integers (eAc (eV 2) (eAc (ep (.int 2)) eAn))))) (eT (e2 gGt (e2 gIx (eV 2) (ep (.int 0))) (e2 gIx (eV 2) (ep (.int 1)))))) sNo sNx)))
noncomputable def g_need_ranges : List D → Option D := fnD 1 2 s_need_ranges
noncomputable abbrev gm_need_ranges : List D → Option D := g_need_ranges
noncomputable def s_crowd_in : SS :=
  (sSq (sA 1 (eL (e1 gSort (e2 gAdd (eL (eLc [7, 8] (eIs (eV 0)) (bdT 2 (bdCons (bd 7) (bdCons (bd 8) bdNil))) (ep true) (eAs gTp (eAc (eV 7) (eAc (ep (.int 0)) eAn))))) (eL (eLc [7, 8] (eIs (eV 0)) (bdT 2 (bdCons (bd 7) (bdCons (bd 8) bdNil))) (ep true) (eAs gTp (eAc (eV 8) (eAc (ep (.int 1)) eAn)))))))))
  (sSq (sPar [2, 3, 4] [(Itm.e (ep (.int 0))), (Itm.e (ep (.int 0))), (Itm.e (ep .none))])
  (sSq (sFor (eIs (eV 1)) (bdT 2 (bdCons (bd 5) (bdCons (bd 6) bdNil))) (sSq (sA 2 (e2 gSub (e2 gAdd (eV 2) (ep (.int 1))) (e2 gMul (ep (.int 2)) (eV 6))))
  (sIf (eT (e2 gGt (eV 2) (eV 3))) (sPar [3, 4] [(Itm.e (eV 2)), (Itm.e (eV 5))]) sNx)))
  (sR (eAs gTp (eAc (eV 3) (eAc (eV 4) eAn)))))))
noncomputable def g_crowd_in : List D → Option D := fnD 1 8 s_crowd_in
noncomputable abbrev gm_crowd_in : List D → Option D := g_crowd_in
noncomputable def s_pairs_by : SS :=
  (sSq (sA 1 (e2 gMin2 (eV 0) (eV 1)))
  (sR (e2 gAdd (e2 gFdiv (e2 gMul (eV 1) (e2 gSub (eV 1) (ep (.int 1)))) (ep (.int 2))) (e2 gMul (e2 gSub (eV 0) (eV 1)) (e2 gSub (eV 1) (ep (.int 1)))))))
noncomputable def g_pairs_by : List D → Option D := fnD 2 0 s_pairs_by
noncomputable abbrev gm_pairs_by : List D → Option D := g_pairs_by
noncomputable def s_by_ends : SS :=
  (sR (eL (eLc [1, 2] (eIs (eL (e1 gSort (eL (eLc [2, 3] (eAs enuG (eAc (eV 0) eAn)) (bdT 2 (bdCons (bd 2) (bdCons (bd 3) bdNil))) (ep true) (eAs gTp (eAc (e2 gIx (eV 3) (ep (.int 1))) (eAc (eV 2) eAn)))))))) (bdT 2 (bdCons (bd 1) (bdCons (bd 2) bdNil))) (ep true) (eV 2))))
noncomputable def g_by_ends : List D → Option D := fnD 1 3 s_by_ends
noncomputable abbrev gm_by_ends : List D → Option D := g_by_ends
noncomputable def s_apart_in : SS :=
  (sSq (sAN 1 (eAs gLs eAn))
  (sSq (sFor (eIs (eAs gm_by_ends (eAc (eV 0) eAn))) (bd 2) (sIf (eOr (eT (e2L gEq 1 (eL (eAs gLs eAn)))) (eT (e2 gLtX (e2 gIx (e2 gIx (eV 0) (e2L gIx 1 (e1 gNeg (ep (.int 1))))) (ep (.int 1))) (e2 gIx (e2 gIx (eV 0) (eV 2)) (ep (.int 0)))))) (sE (eGrow 1 (eb (eV 2) fun x => ep [x]))) sNx))
  (sFz [1] (sR (eV 1)))))
noncomputable def g_apart_in : List D → Option D := fnD 1 2 s_apart_in
noncomputable abbrev gm_apart_in : List D → Option D := g_apart_in
noncomputable def s_roomed : SS :=
  (sSq (sPar [2, 3] [(Itm.n (eAs gLs eAn)), (Itm.e (ep (.int 0)))])
  (sSq (sFor (eIs (eAs gm_by_ends (eAc (eV 0) eAn))) (bd 4) (sSq (sTg (e2 gIx (eV 0) (eV 4)) (bdT 2 (bdCons (bd 5) (bdCons (bd 6) bdNil))))
  (sSq (sA 7 (eL (eLcM [8] 2 (bd 8) (eT (e2 gLtX (eV 8) (eV 5))) (eV 8))))
  (sSq (sIf (eT (e2 gNe (eV 7) (eL (eAs gLs eAn)))) (sE (eRem 2 (e1 gMax (eV 7)))) sNx)
  (sIf (eOr (eT (e2 gNe (eV 7) (eL (eAs gLs eAn)))) (eT (e2 gLtX (e1 gLen (eMb 2)) (eV 1)))) (sSq (sE (eGrow 2 (eb (eV 6) fun x => ep [x])))
  (sAug 3 (fun i j => i + j) (ep (.int 1)))) sNx)))))
  (sR (eV 3))))
noncomputable def g_roomed : List D → Option D := fnD 2 7 s_roomed
noncomputable abbrev gm_roomed : List D → Option D := g_roomed
noncomputable def s_depth_of : SS :=
  (sSq (sE (eAs gm_need_ranges (eAc (eV 0) eAn)))
  (sR (e2 gIx (eAs gm_crowd_in (eAc (eV 0) eAn)) (ep (.int 0)))))
noncomputable def g_depth_of : List D → Option D := fnD 1 0 s_depth_of
noncomputable abbrev gm_depth_of : List D → Option D := g_depth_of
noncomputable def s_meeting_pairs : SS :=
  (sSq (sE (eAs gm_need_ranges (eAc (eV 0) eAn)))
  (sSq (sA 1 (ep (.int 0)))
  (sSq (sFor (eAs enuG (eAc (eV 0) eAn)) (bdT 2 (bdCons (bd 2) (bdCons (bdT 2 (bdCons (bd 3) (bdCons (bd 4) bdNil))) bdNil))) (sAug 1 (fun i j => i + j) (e1 gLen (eL (eLc [5] (eIs (eSl (eV 0) (ep none) (e1 intD (eV 2)))) (bd 5) (eAnd (eT (e2 gLe (e2 gIx (eV 5) (ep (.int 0))) (eV 4))) (eT (e2 gLe (eV 3) (e2 gIx (eV 5) (ep (.int 1)))))) (eV 5))))))
  (sR (eV 1)))))
noncomputable def g_meeting_pairs : List D → Option D := fnD 1 5 s_meeting_pairs
noncomputable abbrev gm_meeting_pairs : List D → Option D := g_meeting_pairs
noncomputable def s_forced_depth : SS :=
  (sSq (sE (eAs gm_need_number (eAc (eV 0) (eAc (ep (.int 1)) (eAc (ep (.int 1000000000000)) eAn)))))
  (sSq (sE (eAs gm_need_number (eAc (eV 1) (eAc (ep (.int 0)) (eAc (e2 gFdiv (e2 gMul (eV 0) (e2 gSub (eV 0) (ep (.int 1)))) (ep (.int 2))) eAn)))))
  (sSq (sPar [2, 3] [(Itm.e (ep (.int 1))), (Itm.e (eV 0))])
  (sSq (sWh (eT (e2 gLtX (eV 2) (eV 3))) (sSq (sA 4 (e2 gFdiv (e2 gAdd (eV 2) (eV 3)) (ep (.int 2))))
  (sIf (eT (e2 gLtX (eAs gm_pairs_by (eAc (eV 0) (eAc (eV 4) eAn))) (eV 1))) (sA 2 (e2 gAdd (eV 4) (ep (.int 1)))) (sA 3 (eV 4)))))
  (sR (eV 2))))))
noncomputable def g_forced_depth : List D → Option D := fnD 2 3 s_forced_depth
noncomputable abbrev gm_forced_depth : List D → Option D := g_forced_depth
noncomputable def s_apart : SS :=
  (sSq (sE (eAs gm_need_ranges (eAc (eV 0) eAn)))
  (sR (eL (e1 gSort (eAs gm_apart_in (eAc (eV 0) eAn))))))
noncomputable def g_apart : List D → Option D := fnD 1 0 s_apart
noncomputable abbrev gm_apart : List D → Option D := g_apart
noncomputable def s_hitting : SS :=
  (sSq (sE (eAs gm_need_ranges (eAc (eV 0) eAn)))
  (sR (eL (eLc [1] (eIs (eAs gm_apart_in (eAc (eV 0) eAn))) (bd 1) (ep true) (e2 gIx (e2 gIx (eV 0) (eV 1)) (ep (.int 1)))))))
noncomputable def g_hitting : List D → Option D := fnD 1 1 s_hitting
noncomputable abbrev gm_hitting : List D → Option D := g_hitting
noncomputable def s_have_meetings : SS :=
  (sSq (sE (eAs gm_need_ranges (eAc (eV 0) eAn)))
  (sSq (sE (eAs gm_need_number (eAc (eV 1) (eAc (ep (.int 1)) (eAc (ep .none) eAn)))))
  (sSq (sE (eAs gm_need_number (eAc (eV 2) (eAc (ep (.int 1)) (eAc (ep .none) eAn)))))
  (sSq (sIf (eT (e2 gGt (eV 2) (eV 1))) sNo sNx)
  (sR (e2 gLtX (eAs gm_roomed (eAc (eV 0) (eAc (e2 gSub (eV 2) (ep (.int 1))) eAn))) (eV 1)))))))
noncomputable def g_have_meetings : List D → Option D := fnD 3 0 s_have_meetings
noncomputable abbrev gm_have_meetings : List D → Option D := g_have_meetings
noncomputable def s_fewest_left : SS :=
  (sSq (sE (eAs gm_need_ranges (eAc (eV 0) eAn)))
  (sR (e2 gSub (e1 gLen (eV 0)) (e2 gIx (eAs gm_crowd_in (eAc (eV 0) eAn)) (ep (.int 0))))))
noncomputable def g_fewest_left : List D → Option D := fnD 1 0 s_fewest_left
noncomputable abbrev gm_fewest_left : List D → Option D := g_fewest_left
noncomputable def s_law_source : SS :=
  (sSq (sA 2 (e1 gAbs (eV 0)))
  (sRN (eAs gLs (eAc (e2 gMax2 (ep (.int 0)) (e2 gSub (eV 2) (e2 gPow (ep (.int 10)) (ep (.int 18))))) (eAc (e2 gAdd (e2 gAdd (e2 gMul (e2 gMod (e1 gInt (eV 2)) (e2 gAdd (e2 gPow (ep (.int 10)) (ep (.int 44))) (ep (.int 31)))) (ep (.int 97))) (e2 gMul (ep (.int 2)) (eV 1))) (e1 gInt (e2 gLtX (eV 0) (ep (.int 0))))) (eAc (ep (.int 0)) eAn))))))
noncomputable def g_law_source : List D → Option (List D) := fnN 2 1 s_law_source
noncomputable abbrev gm_law_source : List D → Option (List D) := g_law_source
noncomputable def s_law_draw : SS :=
  (sSq (sIf (eT (e2 gGt (e2L gIx 0 (ep (.int 0))) (ep (.int 0)))) (sSq (sA 2 (e2 gMod (e1 gInt (e2L gIx 0 (ep (.int 0)))) (eV 1)))
  (sSq (sSt 0 (e2 gFdiv (e2L gIx 0 (ep (.int 0))) (eV 1)) (ep (.int 0)))
  (sR (eV 2)))) sNx)
  (sSq (sSt 0 (e2 gAdd (e2L gIx 0 (ep (.int 2))) (ep (.int 1))) (ep (.int 2)))
  (sSq (sA 3 (e2 gMod (e1 gInt (e2 gPow (e2 gAdd (e2L gIx 0 (ep (.int 1))) (e2 gMul (ep (.int 900007)) (e2L gIx 0 (ep (.int 2))))) (ep (.int 3)))) (e2 gAdd (e2 gPow (ep (.int 10)) (ep (.int 39))) (ep (.int 3)))))
  (sSq (sA 3 (e2 gMod (e1 gInt (e2 gPow (e2 gAdd (e2 gMul (eV 3) (e2L gIx 0 (ep (.int 2)))) (ep (.int 60013))) (ep (.int 3)))) (e2 gAdd (e2 gPow (ep (.int 10)) (ep (.int 40))) (ep (.int 121)))))
  (sR (e2 gMod (e1 gInt (e2 gFdiv (eV 3) (ep (.int 104729)))) (eV 1)))))))
noncomputable def g_law_draw : List D → List D → Option (D × List D) := fnM 1 2 s_law_draw
noncomputable abbrev gm_law_draw : List D → List D → Option (D × List D) := g_law_draw
noncomputable def s_law_spans : SS :=
  (sSq (sAN 3 (eAs gLs eAn))
  (sSq (sFor (eAs rng1 (eAc (eV 1) eAn)) (bd 4) (sSq (sA 5 (e2 gSub (eCM gm_law_draw 0 (eAc (e2 gAdd (e2 gMul (ep (.int 2)) (eV 2)) (ep (.int 1))) eAn)) (eV 2)))
  (sSq (sA 6 (e2 gIx (eL (eAs gLs (eAc (eCM gm_law_draw 0 (eAc (e2 gAdd (e2 gMul (ep (.int 2)) (eV 2)) (ep (.int 1))) eAn)) (eAc (eCM gm_law_draw 0 (eAc (ep (.int 3)) eAn)) (eAc (ep (.int 0)) (eAc (eV 2) eAn)))))) (eCM gm_law_draw 0 (eAc (ep (.int 4)) eAn))))
  (sSq (sPar [7, 8] [(Itm.e (eAs gTp (eAc (eV 5) (eAc (e2 gAdd (eV 5) (eV 6)) eAn)))), (Itm.e (eCM gm_law_draw 0 (eAc (ep (.int 6)) eAn)))])
  (sSq (sIf (eAnd (eT (e2L gNe 3 (eL (eAs gLs eAn)))) (eT (e2 gGt (eV 8) (ep (.int 2))))) (sSq (sA 9 (e2L gIx 3 (eCM gm_law_draw 0 (eAc (e1 gLen (eMb 3)) eAn))))
  (sA 7 (e2 gIx (eL (eAs gLs (eAc (eV 9) (eAc (eAs gTp (eAc (e2 gIx (eV 9) (ep (.int 0))) (eAc (e2 gAdd (e2 gIx (eV 9) (ep (.int 0))) (eV 6)) eAn))) (eAc (eAs gTp (eAc (e2 gSub (e2 gIx (eV 9) (ep (.int 1))) (eV 6)) (eAc (e2 gIx (eV 9) (ep (.int 1))) eAn))) eAn))))) (e2 gSub (eV 8) (ep (.int 3)))))) sNx)
  (sE (eGrow 3 (eb (eV 7) fun x => ep [x]))))))))
  (sFz [3] (sR (eV 3)))))
noncomputable def g_law_spans : List D → List D → Option (D × List D) := fnM 2 7 s_law_spans
noncomputable abbrev gm_law_spans : List D → List D → Option (D × List D) := g_law_spans
noncomputable def s_law_parties_right : SS :=
  (sSq (sPar [1, 2] [(Itm.e (eAs gm_boxes (eAc (ep (.int 1)) eAn))), (Itm.e (e1 gLen (eV 0)))])
  (sSq (sA 3 (eL (eLc [8, 9] (eIs (eV 0)) (bdT 2 (bdCons (bd 8) (bdCons (bd 9) bdNil))) (ep true) (eL (eAs gLs (eAc (eAs gTp (eAc (ep (.int 0)) (eAc (eAs gTp (eAc (e2 gSub (ep (.int 0)) (eV 8)) (eAc (ep (.int 1)) eAn))) eAn))) (eAc (eAs gTp (eAc (ep (.int 1)) (eAc (eAs gTp (eAc (eV 9) (eAc (ep (.int 1)) eAn))) eAn))) eAn)))))))
  (sSq (sIf (eT (e2 gNe (eAs gm_all_meet (eAc (eV 1) (eAc (eV 3) eAn))) (e2 gEq (eAs gm_depth_of (eAc (eV 0) eAn)) (eV 2)))) (sR (ep (.bool false))) sNx)
  (sSq (sIf (eT (e2 gNe (eAs gm_fewest_parties_out (eAc (eV 1) (eAc (eV 3) eAn))) (eAs gm_fewest_left (eAc (eV 0) eAn)))) (sR (ep (.bool false))) sNx)
  (sSq (sIf (eT (e2 gNe (eL (eLc [10] (eIs (eAs gm_crowds (eAc (eV 1) (eAc (eV 3) eAn)))) (bd 10) (eT (e2 gNe (e1 gLen (eV 10)) (eAs gm_depth_of (eAc (eV 0) eAn)))) (ep (.int 1)))) (eL (eAs gLs eAn)))) (sR (ep (.bool false))) sNx)
  (sSq (sAN 4 (eAs gLs eAn))
  (sSq (sFor (eAs rng1 (eAc (eV 2) eAn)) (bd 5) (sFor (eAs rng2 (eAc (e2 gAdd (eV 5) (ep (.int 1))) (eAc (eV 2) eAn))) (bd 6) (sIf (eT (e2 gEq (eAs gm_depth_of (eAc (eL (eAs gLs (eAc (e2 gIx (eV 0) (eV 5)) (eAc (e2 gIx (eV 0) (eV 6)) eAn)))) eAn)) (ep (.int 1)))) (sE (eGrow 4 (eb (eL (eAs gLs (eAc (eV 5) (eAc (eV 6) eAn)))) fun x => ep [x]))) sNx)))
  (sSq (sIf (eOr (eT (e2 gNe (eAs gm_party_clashes (eAc (eV 1) (eAc (eV 3) eAn))) (eMb 4))) (eT (e2 gNe (eAs gm_meeting_pairs (eAc (eV 0) eAn)) (e2 gSub (e2 gFdiv (e2 gMul (eV 2) (e2 gSub (eV 2) (ep (.int 1)))) (ep (.int 2))) (e1 gLen (eMb 4)))))) (sR (ep (.bool false))) sNx)
  (sSq (sA 7 (eAs gm_meeting_place (eAc (eV 1) (eAc (eV 3) eAn))))
  (sSq (sIf (eT (e2L gNe 4 (eL (eAs gLs eAn)))) (sR (eAndV (e2 gIs (eV 7) (ep .none)) (e2 gGt (e1 gLen (eAs gm_apart (eAc (eV 0) eAn))) (ep (.int 1))))) sNx)
  (sSq (sPar [8, 9] [(Itm.e (e1 gMax (eL (eLc [11] (eIs (eV 0)) (bd 11) (ep true) (e2 gIx (eV 11) (ep (.int 0))))))), (Itm.e (e1 gMin (eL (eLc [11] (eIs (eV 0)) (bd 11) (ep true) (e2 gIx (eV 11) (ep (.int 1)))))))])
  (sSq (sIf (eOr (eT (e2 gNe (eAs gm_combined (eAc (eV 1) (eAc (eV 3) eAn))) (eL (eAs gLs (eAc (eAs gTp (eAc (e2 gSub (ep (.int 0)) (eV 8)) (eAc (ep (.int 1)) eAn))) (eAc (eAs gTp (eAc (eV 9) (eAc (ep (.int 1)) eAn))) eAn)))))) (eT (e2 gNe (e1 gLen (eAs gm_hitting (eAc (eV 0) eAn))) (ep (.int 1))))) (sR (ep (.bool false))) sNx)
  (sR (eCh gLe gLe (e2 gMul (eV 8) (e2 gIx (e2 gIx (eV 7) (ep (.int 0))) (ep (.int 1)))) (e2 gIx (e2 gIx (eV 7) (ep (.int 0))) (ep (.int 0))) (e2 gMul (eV 9) (e2 gIx (e2 gIx (eV 7) (ep (.int 0))) (ep (.int 1))))))))))))))))))
noncomputable def g_law_parties_right : List D → Option D := fnD 1 11 s_law_parties_right
noncomputable abbrev gm_law_parties_right : List D → Option D := g_law_parties_right
noncomputable def s_law_long_right : SS :=
  (sSq (sA 1 (e1 gLen (eV 0)))
  (sSq (sIf (eOr (eT (e2 gGt (eAs gm_forced_depth (eAc (eV 1) (eAc (eAs gm_meeting_pairs (eAc (eV 0) eAn)) eAn))) (eAs gm_depth_of (eAc (eV 0) eAn)))) (eT (e2 gNe (e1 gLen (eAs gm_apart (eAc (eV 0) eAn))) (e1 gLen (eAs gm_hitting (eAc (eV 0) eAn)))))) (sR (ep (.bool false))) sNx)
  (sSq (sFor (eTs (eAs gTp (eAc (ep (.int 2)) (eAc (ep (.int 3)) (eAc (ep (.int 4)) eAn))))) (bd 2) (sFor (eAs rng2 (eAc (eV 2) (eAc (e2 gAdd (eV 1) (ep (.int 1))) eAn))) (bd 3) (sIf (eAnd (eT (eAs gm_have_meetings (eAc (eV 0) (eAc (eV 3) (eAc (eV 2) eAn))))) (eT (e2 gGt (e1 gLen (eAs gm_hitting (eAc (eV 0) eAn))) (e2 gAdd (e2 gSub (eV 3) (eV 2)) (ep (.int 1)))))) (sR (ep (.bool false))) sNx)))
  (sR (eAndV (eAs gm_have_meetings (eAc (eV 0) (eAc (e2 gAdd (e1 gLen (eAs gm_apart (eAc (eV 0) eAn))) (ep (.int 1))) (eAc (ep (.int 2)) eAn)))) (eNotV (eAs gm_have_meetings (eAc (eV 0) (eAc (e1 gLen (eAs gm_apart (eAc (eV 0) eAn))) (eAc (ep (.int 2)) eAn))))))))))
noncomputable def g_law_long_right : List D → Option D := fnD 1 3 s_law_long_right
noncomputable abbrev gm_law_long_right : List D → Option D := g_law_long_right
noncomputable def s_law : SS :=
  (sSq (sFor (eAs enuG (eAc (eSl (e2 gAdd (eV 0) (eL (eAs gLs (eAc (ep (.int 0)) eAn)))) (ep none) (e1 intD (e2 gMax2 (ep (.int 1)) (e2 gMin2 (e1 gLen (eV 0)) (ep (.int 4)))))) eAn)) (bdT 2 (bdCons (bd 1) (bdCons (bd 2) bdNil))) (sSq (sAN 3 (eAs gm_law_source (eAc (eV 2) (eAc (eV 1) eAn))))
  (sSq (sFor (eAs rng1 (eAc (ep (.int 3)) eAn)) (bd 4) (sSq (sA 5 (e2 gIx (eL (eAs gLs (eAc (ep (.int 6)) (eAc (ep (.int 30)) (eAc (e2 gPow (ep (.int 10)) (ep (.int 27))) eAn))))) (eV 4)))
  (sSq (sIf (eNot (eT (eAs gm_law_parties_right (eAc (eCM gm_law_spans 3 (eAc (e2 gAdd (ep (.int 1)) (eCM gm_law_draw 3 (eAc (ep (.int 6)) eAn))) (eAc (eV 5) eAn))) eAn)))) (sR (ep (.bool false))) sNx)
  (sSq (sA 6 (eCM gm_law_spans 3 (eAc (e2 gAdd (ep (.int 2)) (eCM gm_law_draw 3 (eAc (ep (.int 12)) eAn))) (eAc (eV 5) eAn))))
  (sIf (eAnd (eT (e2 gGt (e1 gLen (eAs gm_apart (eAc (eV 6) eAn))) (ep (.int 1)))) (eNot (eT (eAs gm_law_long_right (eAc (eV 6) eAn))))) (sR (ep (.bool false))) sNx)))))
  (sIf (eAnd (eT (e2 gEq (eV 1) (ep (.int 0)))) (eAnd (eT (e2 gNeS (eV 0) (eL (eAs gLs eAn)))) (eNot (eT (eAs gm_law_parties_right (eAc (eCM gm_law_spans 3 (eAc (ep (.int 8)) (eAc (ep (.int 9)) eAn))) eAn)))))) (sR (ep (.bool false))) sNx))))
  (sR (eAndV (eAs gm_law_parties_right (eAc (eL (eAs gLs (eAc (eAs gTp (eAc (ep (.int 0)) (eAc (ep (.int 3)) eAn))) (eAc (eAs gTp (eAc (ep (.int 2)) (eAc (ep (.int 5)) eAn))) (eAc (eAs gTp (eAc (ep (.int 3)) (eAc (ep (.int 3)) eAn))) eAn))))) eAn)) (eAs gm_law_long_right (eAc (eL (eAs gLs (eAc (eAs gTp (eAc (ep (.int 0)) (eAc (ep (.int 1)) eAn))) (eAc (eAs gTp (eAc (ep (.int 1)) (eAc (ep (.int 2)) eAn))) (eAc (eAs gTp (eAc (ep (.int 5)) (eAc (ep (.int 6)) eAn))) (eAc (eAs gTp (eAc (ep (.int 6)) (eAc (ep (.int 9)) eAn))) eAn)))))) eAn)))))
noncomputable def g_law : List D → Option D := fnD 1 6 s_law
noncomputable abbrev gm_law : List D → Option D := g_law
end CS
set_option Elab.async false
set_option linter.all false
set_option maxRecDepth 100000
set_option maxHeartbeats 4000000
set_option autoImplicit false
namespace CS
open PySem PySem.Spec PyProof.Rows L2
def bk : D := .list [.tuple [.int (-1)], .tuple [.int 1]]
def kn : D := .list [.list [.tuple [.int 0, .int 1], .tuple [.int 1, .int 1]]]
theorem v_book : gm_need_book [bk] = some .none := by kernel_rfl
theorem v_kb : gm_knots_behind [bk, .int 0, .list [], .list []] = some kn := by kernel_rfl
theorem v_pw1 : gm_positive_ways [bk, .tuple [.int (-1)]] = some (.list [.tuple [.list [.int 0], .list [.int 1], .int 1]]) := by kernel_rfl
theorem v_pw2 : gm_positive_ways [bk, .tuple [.int 1]] = some (.list [.tuple [.list [.int 1], .list [.int 1], .int 1]]) := by kernel_rfl
theorem gSort_of {xs ys : List D} (h : sortOk xs = true) (hl : xs.length ≤ 16777216) (e : srt xs = ys) : gSort (.list xs) = some ys := by
  unfold gSort
  simp only [h, fits_of hl, Bool.and_self, e]
theorem srt1 (x : D) : srt [x] = [x] := List.mergeSort_singleton x
theorem srt2 (x y : D) (h : PySem.W.dataLe false id x y = false) : srt [x, y] = [y, x] := by
  unfold srt
  simp [List.mergeSort, List.MergeSort.Internal.splitInTwo, List.merge, h]
theorem v_knots : gm_knots_in [bk] = some kn := by
  have h : gSort (.list [.list [.tuple [.int 0, .int 1], .tuple [.int 1, .int 1]]]) = some [.list [.tuple [.int 0, .int 1], .tuple [.int 1, .int 1]]] := gSort_of (by kernel_rfl) (by decide) (srt1 _)
  unfold gm_knots_in g_knots_in fnD s_knots_in gm_knots_of g_knots_of fnD s_knots_of
  simp [v_kb]
  simp [kn, h]
theorem v_ups : gm_with_items [.int 1, .list [.tuple [.int 0, .int 1]]] = some (.tuple [.int 1]) := by kernel_rfl
theorem v_dns : gm_with_items [.int 1, .list [.tuple [.int 0, .int (-1)]]] = some (.tuple [.int (-1)]) := by kernel_rfl
theorem v_nn : gm_need_number [.int 1, .int 1, .int 5] = some .none := by kernel_rfl
theorem v_boxes : gm_boxes [.int 1] = some bk := by
  have h : gSort (.list [.tuple [.int 1], .tuple [.int (-1)]]) = some [.tuple [.int (-1)], .tuple [.int 1]] := gSort_of (by kernel_rfl) (by decide) (srt2 _ _ (by kernel_rfl))
  unfold gm_boxes g_boxes fnD s_boxes
  have hr : rng1 [.int 1] = some [.int 0] := by kernel_rfl
  simp [v_nn, hr, lcL, eLc, anyM, wipeE, restE, v_ups, v_dns]
  simp [h, bk]
end CS
set_option Elab.async false
set_option linter.all false
set_option maxRecDepth 100000
set_option maxHeartbeats 4000000
set_option autoImplicit false
namespace CS
open PySem PySem.Spec PyProof.Rows L2
def fr (a : Int) : D := .tuple [.int a, .int 1]
def rg (p : Int × Int) : D := .tuple [.int p.1, .int p.2]
def guest (p : Int × Int) : D := .list [.tuple [.int 0, fr (0 - p.1)], .tuple [.int 1, fr p.2]]
theorem v_com1 (a : Int) : gm_common [.int a, .int 1] = some (.int 1) := by
  unfold gm_common
  simp [Int.gcd_one]
theorem v_lowest (a : Int) : gm_lowest [.int a, .int 1] = some (fr a) := by
  unfold gm_lowest g_lowest fnD s_lowest
  simp [v_com1, fr]
theorem v_added {a b : Int} (ha : Sm a) (hb : Sm b) : gm_added [fr a, fr b] = some (fr (a + b)) := by
  unfold gm_added g_added fnD s_added
  simp [fr, ha, hb, v_lowest]
theorem v_scaled {a b : Int} (ha : Sm a) (hb : Sm b) : gm_scaled [.int a, fr b] = some (fr (a * b)) := by
  unfold gm_scaled g_scaled fnD s_scaled
  simp [fr, ha, hb, v_lowest]
theorem v_summed1 {a : Int} (ha : Sm a) : gm_summed [.list [fr a]] = some (fr a) := by
  unfold gm_summed g_summed fnD s_summed
  have := v_added Sm_0 ha
  simp only [fr] at this
  simp [fr, ha, this]
theorem v_summed2 {a b : Int} (ha : Sm a) (hb : Sm b) : gm_summed [.list [fr a, fr b]] = some (fr (a + b)) := by
  unfold gm_summed g_summed fnD s_summed
  have := v_added Sm_0 ha
  have h2 := v_added ha hb
  simp only [fr] at this h2
  simp [fr, ha, this, h2]
theorem v_below {a b : Int} (ha : Sm a) (hb : Sm b) : gm_is_below [fr a, fr b] = some (.bool (decide (a < b))) := by
  unfold gm_is_below g_is_below fnD s_is_below
  simp [fr, ha, hb]
theorem v_valat {a b : Int} (ha : Sm a) (hb : Sm b) (hc : Sm (a * b)) : gm_value_at [.tuple [.int a], .tuple [fr b]] = some (fr (a * b)) := by
  unfold gm_value_at g_value_at fnD s_value_at
  have h1 := v_scaled ha hb
  have h2 := v_summed1 hc
  simp only [fr] at h1 h2
  simp [fr, ha, hb, zipG, zipD, eLc, anyM, wipeE, restE, lcL, h1, h2]
theorem v_int (a : Int) : gm_is_integer [.int a] = some (.bool true) := by
  unfold gm_is_integer g_is_integer fnD s_is_integer
  simp
  rfl
theorem v_ints2 (a b : Int) : gm_are_integers [.tuple [.int a, .int b], .int 2] = some (.bool true) := by
  unfold gm_are_integers g_are_integers fnD s_are_integers
  have h : gEq (.int 2) (.int 2) = some (.bool true) := by kernel_rfl
  have h2 : gAll (.list [.bool true, .bool true]) = some (.bool true) := by kernel_rfl
  simp [v_int, isT, eLc, anyM, wipeE, restE, lcL, h, h2]
theorem v_frac (a : Int) : gm_is_fraction [fr a] = some (.bool true) := by
  unfold gm_is_fraction g_is_fraction fnD s_is_fraction
  have h : gEq (.int 1) (.int 1) = some (.bool true) := by kernel_rfl
  simp [fr, v_ints2, v_com1, h]
theorem v_rule {k : Int} (a : Int) (hk : k = 0 ∨ k = 1) : gm_is_rule_of [bk, .tuple [.int k, fr a]] = some (.bool true) := by
  unfold gm_is_rule_of g_is_rule_of fnD s_is_rule_of
  have h : gNe (.int 2) (.int 2) = some (.bool false) := by kernel_rfl
  have h2 := v_frac a
  rcases hk with rfl | rfl <;> simp [isT, v_int, h, bk, h2]
theorem v_party (p : Int × Int) : gm_is_party [bk, guest p] = some (.bool true) := by
  unfold gm_is_party g_is_party fnD s_is_party
  have h2 : gAll (.list [.bool true, .bool true]) = some (.bool true) := by kernel_rfl
  simp [isT, guest, eLc, anyM, wipeE, restE, lcL, v_rule, h2]
end CS
set_option Elab.async false
set_option linter.all false
set_option maxRecDepth 100000
set_option maxHeartbeats 4000000
set_option autoImplicit false
namespace CS
open PySem PySem.Spec PyProof.Rows L2
def Smp (p : Int × Int) : Prop := Sm p.1 ∧ Sm p.2
theorem enuD_map {α : Type} (f : α → D) : ∀ (as : List α) (n : Nat), enuD n (as.map f) = (as.zipIdx n).map fun q => .tuple [.int (q.2 : Int), f q.1]
  | [], _ => rfl
  | a :: as, n => by simp only [List.map_cons, enuD, List.zipIdx_cons, enuD_map f as (n + 1)]
theorem v_parties (L : List (Int × Int)) (h1 : 1 ≤ L.length) (h8 : L.length ≤ 8) : gm_need_parties [bk, .list (L.map guest)] = some .none := by
  unfold gm_need_parties g_need_parties fnD s_need_parties
  have e1 : (1 : Int) ≤ (L.length : Int) := by omega
  have e2 : (L.length : Int) ≤ 8 := by omega
  simp [isT, e1, e2, enuG, enuD_map]
  obtain ⟨ρ', e, o1, o2, rfl⟩ := for_inv (fun q : (Int × Int) × Nat => PyData.tuple [.int (q.2 : Int), guest q.1]) (b := bdT 2 (bdCons (bd 2) (bdCons (bd 3) bdNil))) (s := sIf (eNot (eT (eAs g_is_party (eAc (eV 0) (eAc (eV 3) eAn))))) sNo sNx)
    (fun _ ρ => ∃ o1 o2, ρ = [some (.d bk), some (.d (.list (L.map guest))), Od o1, Od o2]) (L.zipIdx 0) (ρ := [some (.d bk), some (.d (.list (L.map guest))), none, none]) ⟨none, none, rfl⟩ (fun pre a post ρ _ ⟨o1, o2, hρ⟩ => by
      subst hρ
      refine ⟨[some (.d bk), some (.d (.list (L.map guest))), some (.d (.int (a.2 : Int))), some (.d (guest a.1))], [some (.d bk), some (.d (.list (L.map guest))), some (.d (.int (a.2 : Int))), some (.d (guest a.1))], by simp, by simp [v_party], some (.int a.2), some (guest a.1), rfl⟩)
  rw [e]
theorem v_nbp (L : List (Int × Int)) (h1 : 1 ≤ L.length) (h8 : L.length ≤ 8) : gm_need_book_and_parties [bk, .list (L.map guest)] = some .none := by
  unfold gm_need_book_and_parties g_need_book_and_parties fnD s_need_book_and_parties
  simp [v_book, v_parties L h1 h8]
/-! ### least bounds -/
def ob : Option Int → D
  | none => .none
  | some a => fr a
def mn (o : Option Int) (a : Int) : Option Int := match o with
  | none => some a
  | some b => some (if a < b then a else b)
def SmI : Option Int → Prop
  | none => True
  | some a => Sm a
theorem SmI_mn {o : Option Int} {a : Int} (h1 : SmI o) (h2 : Sm a) : SmI (mn o a) := by
  cases o with
  | none => exact h2
  | some b =>
    unfold mn
    by_cases h : a < b
    · simp only [h, if_pos]; exact h2
    · simp only [h, if_neg]; exact h1
/-- a rule: which kind, which bound -/
def rl (q : Bool × Int) : D := .tuple [.int (if q.1 then 1 else 0), fr q.2]
def lbS (s : Option Int × Option Int) (q : Bool × Int) : Option Int × Option Int := if q.1 then (s.1, mn s.2 q.2) else (mn s.1 q.2, s.2)
def lbs (s : Option Int × Option Int) (qs : List (Bool × Int)) : Option Int × Option Int := qs.foldl lbS s
theorem setI_0 (a b x : D) : setI [a, b] (.int 0) x = some [x, b] := rfl
theorem setI_1 (a b x : D) : setI [a, b] (.int 1) x = some [a, x] := rfl
noncomputable def s_lb : SS := sIf (eOr (eT (e2 gIs (e2L gIx 2 (eV 3)) (ep .none))) (eT (eAs gm_is_below (eAc (eV 4) (eAc (e2L gIx 2 (eV 3)) eAn))))) (sSt 2 (eV 4) (eV 3)) sNx
theorem v_lb {x y : Option W} {s : Option Int × Option Int} {q : Bool × Int} (h1 : SmI s.1) (h2 : SmI s.2) (h3 : Sm q.2) :
    s_lb [x, y, some (.m [ob s.1, ob s.2]), some (.d (.int (if q.1 then 1 else 0))), some (.d (fr q.2))] = some (.nx, [x, y, some (.m [ob (lbS s q).1, ob (lbS s q).2]), some (.d (.int (if q.1 then 1 else 0))), some (.d (fr q.2))]) := by
  obtain ⟨o0, o1⟩ := s
  obtain ⟨k, a⟩ := q
  unfold s_lb lbS
  cases k with
  | false =>
    cases o0 with
    | none => simp [ob, setI_0, mn]
    | some b =>
      have := v_below (a := a) (b := b) h3 h1
      by_cases h : a < b <;> simp [ob, fr, h, mn, setI_0] at this ⊢ <;> simp [this, setI_0]
  | true =>
    cases o1 with
    | none => simp [ob, setI_1, mn]
    | some b =>
      have := v_below (a := a) (b := b) h3 h2
      by_cases h : a < b <;> simp [ob, fr, h, mn, setI_1] at this ⊢ <;> simp [this, setI_1]
theorem v_least (nm : D) (hn : gLen nm = some (.int 2)) (qs : List (Bool × Int)) (hs : ∀ q ∈ qs, Sm q.2) : gm_least_bounds [nm, .list (qs.map rl)] = some (.list [ob (lbs (none, none) qs).1, ob (lbs (none, none) qs).2]) := by
  unfold gm_least_bounds g_least_bounds fnD s_least_bounds
  have hr : gRepN (.list [.none]) (.int 2) = some [.none, .none] := by kernel_rfl
  obtain ⟨ρ', e, o1, o2, rfl, _, _⟩ := for_inv rl (b := bdT 2 (bdCons (bd 3) (bdCons (bd 4) bdNil))) (s := s_lb)
    (fun pre ρ => ∃ o1 o2, ρ = [some (.d nm), some (.d (.list (qs.map rl))), some (.m [ob (lbs (none, none) pre).1, ob (lbs (none, none) pre).2]), Od o1, Od o2] ∧ SmI (lbs (none, none) pre).1 ∧ SmI (lbs (none, none) pre).2) qs
    (ρ := [some (.d nm), some (.d (.list (qs.map rl))), some (.m [.none, .none]), none, none]) ⟨none, none, rfl, trivial, trivial⟩ (fun pre a post ρ ha ⟨o1, o2, hρ, i1, i2⟩ => by
      subst hρ
      have h3 : Sm a.2 := hs a (by rw [ha]; simp)
      have e : lbs (none, none) (pre ++ [a]) = lbS (lbs (none, none) pre) a := by unfold lbs; rw [List.foldl_append]; rfl
      refine ⟨[some (.d nm), some (.d (.list (qs.map rl))), some (.m [ob (lbs (none, none) pre).1, ob (lbs (none, none) pre).2]), some (.d (.int (if a.1 then 1 else 0))), some (.d (fr a.2))], _, by simp [rl], v_lb i1 i2 h3, some (.int (if a.1 then 1 else 0)), some (fr a.2), by rw [e]; rfl, ?_, ?_⟩
      · rw [e]
        unfold lbS
        split
        · exact i1
        · exact SmI_mn i1 h3
      · rw [e]
        unfold lbS
        split
        · exact SmI_mn i2 h3
        · exact i2)
  have e' := e
  unfold s_lb at e'
  simp [hn, hr, e']
/-- the rules of chosen ranges -/
def rls (ps : List (Int × Int)) : List (Bool × Int) := ps.flatMap fun p => [(false, 0 - p.1), (true, p.2)]
theorem guest_rl (p : Int × Int) : guest p = .list ([(false, 0 - p.1), (true, p.2)].map rl) := rfl
/-- a place -/
def nt (i : Nat) : D := .int (i : Int)
def pick (L : List (Int × Int)) (is : List Nat) : List (Int × Int) := is.filterMap fun i => L[i]?
theorem v_bounds (nm : D) (hn : gLen nm = some (.int 2)) (L : List (Int × Int)) (is : List Nat) (hi : ∀ i ∈ is, i < L.length) (hl : is.length ≤ 1000) (hs : ∀ p ∈ L, Smp p) :
    gm_bounds_of [nm, .list (L.map guest), .list (is.map nt)] = some (.list [ob (lbs (none, none) (rls (pick L is))).1, ob (lbs (none, none) (rls (pick L is))).2]) := by
  unfold gm_bounds_of g_bounds_of fnD s_bounds_of
  have key : ∀ js : List Nat, (∀ i ∈ js, i < L.length) → lc2L [3, 4] [4] (bd 3) (ep true) (eIs (e2 gIx (eV 1) (eV 3))) (bd 4) (ep true) (eV 4) (js.map nt) [some (.d nm), some (.d (.list (L.map guest))), some (.d (.list (is.map nt))), none, none] =
      some ((rls (pick L js)).map rl, [some (.d nm), some (.d (.list (L.map guest))), some (.d (.list (is.map nt))), none, none]) := by
    intro js
    induction js with
    | nil => intro _; rfl
    | cons j js ih =>
      intro hj
      have hj0 : j < L.length := hj j List.mem_cons_self
      have ih := ih fun i h => hj i (List.mem_cons_of_mem _ h)
      have e1 : atI (L.map guest) (j : Int) = some (guest L[j]) := by rw [atI_ofNat, List.getElem?_map, List.getElem?_eq_getElem hj0]; rfl
      simp only [List.map_cons, lc2L]
      simp [nt, e1, guest_rl, anyM, wipeE, lcL, ih]
      simp [pick, rls, List.filterMap_cons, List.getElem?_eq_getElem hj0]
  have hlen : ∀ ps : List (Int × Int), (rls ps).length = 2 * ps.length := by
    intro ps
    induction ps with
    | nil => rfl
    | cons p ps ih => simp only [rls, List.flatMap_cons, List.length_append, List.length_cons, List.length_nil] at ih ⊢; omega
  have hpl : (pick L is).length ≤ is.length := List.length_filterMap_le _ _
  have hp : ∀ p ∈ pick L is, p ∈ L := fun p hp => by
    obtain ⟨i, _, hi⟩ := List.mem_filterMap.mp hp
    exact List.mem_of_getElem? hi
  have hsm : ∀ q ∈ rls (pick L is), Sm q.2 := fun q hq => by
    obtain ⟨p, hp1, hp2⟩ := List.mem_flatMap.mp hq
    have := hs p (hp p hp1)
    rcases List.mem_cons.mp hp2 with rfl | hp2
    · simpa using this.1
    · rcases List.mem_cons.mp hp2 with rfl | hp2
      · exact this.2
      · cases hp2
  have hv := v_least nm hn _ hsm
  have hf : (rls (pick L is)).length ≤ 16777216 := by rw [hlen]; omega
  simp [eLc2, anyM, wipeE, key is hi, restE, hf, hv]
theorem bk_len : gLen bk = some (.int 2) := rfl
/-- the least bounds of chosen ranges -/
def bnd (ps : List (Int × Int)) : Option (Int × Int) := ps.foldl (fun o p => match o with
  | none => some p
  | some q => some (max q.1 p.1, min q.2 p.2)) none
theorem lbs_bnd (ps : List (Int × Int)) : lbs (none, none) (rls ps) = ((bnd ps).map fun q => 0 - q.1, (bnd ps).map fun q => q.2) := by
  have key : ∀ (ps : List (Int × Int)) (o : Option (Int × Int)), lbs (o.map fun q => 0 - q.1, o.map fun q => q.2) (rls ps) = ((ps.foldl (fun o p => match o with
      | none => some p
      | some q => some (max q.1 p.1, min q.2 p.2)) o).map fun q => 0 - q.1, (ps.foldl (fun o p => match o with
      | none => some p
      | some q => some (max q.1 p.1, min q.2 p.2)) o).map fun q => q.2) := by
    intro ps
    induction ps with
    | nil => intro o; rfl
    | cons p ps ih =>
      intro o
      rw [List.foldl_cons, ← ih]
      have e : lbs (o.map fun q => 0 - q.1, o.map fun q => q.2) (rls (p :: ps)) = lbs (lbS (lbS (o.map fun q => 0 - q.1, o.map fun q => q.2) (false, 0 - p.1)) (true, p.2)) (rls ps) := rfl
      rw [e]
      congr 1
      cases o with
      | none => rfl
      | some q =>
        simp only [lbS, mn, Option.map_some, Bool.false_eq_true, if_false, if_true]
        congr 2
        · by_cases h : 0 - p.1 < 0 - q.1
          · rw [if_pos h, Int.max_eq_right (by omega)]
          · rw [if_neg h, Int.max_eq_left (by omega)]
        · by_cases h : p.2 < q.2
          · rw [if_pos h, Int.min_eq_right (by omega)]
          · rw [if_neg h, Int.min_eq_left (by omega)]
  exact key ps none
def bdD : Option (Int × Int) → List D
  | none => [.none, .none]
  | some q => [fr (0 - q.1), fr q.2]
theorem v_bnd (nm : D) (hn : gLen nm = some (.int 2)) (L : List (Int × Int)) (is : List Nat) (hi : ∀ i ∈ is, i < L.length) (hl : is.length ≤ 1000) (hs : ∀ p ∈ L, Smp p) :
    gm_bounds_of [nm, .list (L.map guest), .list (is.map nt)] = some (.list (bdD (bnd (pick L is)))) := by
  rw [v_bounds nm hn L is hi hl hs, lbs_bnd]
  cases bnd (pick L is) <;> rfl
theorem v_meets0 : gm_meets [kn, .list [.none, .none]] = some (.bool true) := by kernel_rfl
theorem v_scaled1 {b : Int} (hb : Sm b) : gm_scaled [.int 1, fr b] = some (fr b) := by
  have := v_scaled Sm_1 hb
  rwa [Int.one_mul] at this
theorem v_meets {lo hi : Int} (h1 : Sm lo) (h2 : Sm hi) : gm_meets [kn, .list [fr (0 - lo), fr hi]] = some (.bool (decide (lo ≤ hi))) := by
  have e1 := v_scaled1 (b := 0 - lo) (by simpa using h1)
  have e2 := v_scaled1 h2
  have e3 := v_summed2 (a := 0 - lo) (by simpa using h1) h2
  unfold gm_meets g_meets fnD s_meets
  have hb : gm_is_broken [.list [.tuple [.int 0, .int 1], .tuple [.int 1, .int 1]], .list [fr (0 - lo), fr hi]] = some (.bool (decide (hi < lo))) := by
    unfold gm_is_broken g_is_broken fnD s_is_broken
    have hsu : gm_sum_in [.list [.tuple [.int 0, .int 1], .tuple [.int 1, .int 1]], .list [fr (0 - lo), fr hi]] = some (fr (0 - lo + hi)) := by
      unfold gm_sum_in g_sum_in fnD s_sum_in
      have ha : gAny (.list [.bool false, .bool false]) = some (.bool false) := by kernel_rfl
      simp [fr] at e1 e2 e3 ⊢
      simp [eLc, anyM, wipeE, restE, lcL, ha, e1, e2, e3]
    have hd : (-lo + hi < 0) ↔ hi < lo := by omega
    simp [fr] at hsu ⊢
    simp [hsu, hd]
  have ha : gAny (.list [.bool (decide (hi < lo))]) = some (.bool (decide (hi < lo))) := by
    unfold gAny boolsD boolsD
    simp
  simp [eLc, anyM, wipeE, restE, lcL, kn]
  simp at hb
  simp [hb, ha]
  by_cases h : hi < lo
  · rw [decide_eq_true h, decide_eq_false (by omega)]; rfl
  · rw [decide_eq_false h, decide_eq_true (by omega)]; rfl
/-! ### a point of two bounds -/
def row1 : D := .tuple [.int 0, .list [.int 1], .list [.int (-1)]]
def row2 : D := .tuple [.int 0, .list [.int 1], .list [.int 1]]
theorem v_r1 : gm_with_row [.list [], .tuple [.int (-1)]] = some (.list [row1]) := by kernel_rfl
theorem v_r2 : gm_with_row [.list [], .tuple [.int 1]] = some (.list [row2]) := by kernel_rfl
theorem v_r3 : gm_with_row [.list [row1], .tuple [.int 1]] = some .none := by kernel_rfl
theorem v_por {k a : Int} (hk : k = 1 ∨ k = -1) (ha : Sm a) : gm_point_of_rows [.list [.tuple [.int 0, .list [.int 1], .list [.int k]]], .list [fr a], .int 1] = some (.tuple [fr (k * a)]) := by
  have hk2 : Sm k := by rcases hk with rfl | rfl <;> decide
  have hka : Sm (k * a) := by
    rcases hk with rfl | rfl
    · rwa [Int.one_mul]
    · rw [Int.neg_one_mul]; simpa using ha
  have e1 := v_scaled hk2 ha
  have e2 := v_summed1 hka
  have e3 := v_added hka Sm_0
  have e4 := v_lowest (k * a)
  have e5 : gm_summed [.list []] = some (.tuple [.int 0, .int 1]) := by kernel_rfl
  have e6 : gNe (.int 0) (.int 0) = some (.bool false) := by kernel_rfl
  have e7 : gRepN (.list [.tuple [.int 0, .int 1]]) (.int 1) = some [.tuple [.int 0, .int 1]] := by kernel_rfl
  unfold gm_point_of_rows g_point_of_rows fnD s_point_of_rows
  simp [fr] at e1 e2 e3 e4 ⊢
  simp [e7, zipG, zipD, eLc, anyM, wipeE, restE, lcL, e1, e2, enuG, enuD, e6, e5, e3, e4, setI, ixN]
end CS
set_option Elab.async false
set_option linter.all false
set_option maxRecDepth 100000
set_option maxHeartbeats 4000000
set_option autoImplicit false
namespace CS
open PySem PySem.Spec PyProof.Rows L2
theorem v_within {x a b : Int} (hx : Sm x) (ha : Sm a) (hb : Sm b) : gm_within_bounds [bk, .list [fr a, fr b], .tuple [fr x]] = some (.bool (decide (0 - x ≤ a) && decide (x ≤ b))) := by
  have e1 := v_valat (a := -1) Sm_m hx (by rw [Int.neg_one_mul]; simpa using hx)
  have e2 := v_valat (a := 1) Sm_1 hx (by rwa [Int.one_mul])
  have e3 := v_below (a := a) (b := -1 * x) ha (by rw [Int.neg_one_mul]; simpa using hx)
  have e4 := v_below (a := b) (b := 1 * x) hb (by rwa [Int.one_mul])
  rw [Int.neg_one_mul] at e1 e3
  rw [Int.one_mul] at e2 e4
  unfold gm_within_bounds g_within_bounds fnD s_within_bounds
  by_cases h1 : a < -x
  · have h1' : ¬ (-x ≤ a) := by omega
    simp [bk, zipG, zipD, e1, e3, h1, h1']
  · have h1' : (-x ≤ a) := by omega
    by_cases h2 : b < x
    · have h2' : ¬ (x ≤ b) := by omega
      simp [bk, zipG, zipD, e1, e2, e3, e4, h1, h1', h2, h2']
    · have h2' : (x ≤ b) := by omega
      simp [bk, zipG, zipD, e1, e2, e3, e4, h1, h1', h2, h2']
theorem r_face (n : Nat) : r_face_point (n + 1) = fnD 5 5 (s_face_point (r_face_point n)) := rfl
theorem v_sp {lo hi : Int} (h1 : Sm lo) (h2 : Sm hi) : gm_some_point [bk, .list [fr (0 - lo), fr hi]] = some (if lo ≤ hi then .tuple [fr lo] else .none) := by
  have ha : Sm (0 - lo) := by simpa using h1
  have p1 := v_por (k := -1) (Or.inr rfl) ha
  have p2 := v_por (k := 1) (Or.inl rfl) h2
  rw [Int.one_mul] at p2
  rw [show (-1 : Int) * (0 - lo) = lo from by omega] at p1
  have w1 := v_within h1 ha h2
  have w2 := v_within h2 ha h2
  have hbk : gIx bk (.int 0) = some (.tuple [.int (-1)]) := rfl
  have hbk1 : gIx bk (.int 1) = some (.tuple [.int 1]) := rfl
  have f1 : ∀ n, r_face_point (n + 1) [bk, .list [fr (0 - lo), fr hi], .int 1, .list [.int 0], .list [row1]] = some (if lo ≤ hi then .tuple [fr lo] else .none) := by
    intro n
    rw [r_face]
    have e := v_r3
    unfold row1 at e
    unfold fnD s_face_point
    have hr : rng2 [.int 1, .int 2] = some [.int 1] := by kernel_rfl
    simp at p1 w1
    by_cases h : lo ≤ hi
    · simp [bk_len, hr, hbk1, hbk, row1, e, eLc, anyM, wipeE, restE, lcL, p1, w1, h]
    · simp [bk_len, hr, hbk1, hbk, row1, e, eLc, anyM, wipeE, restE, lcL, p1, w1, h]
  have f2 : ∀ n, r_face_point (n + 1) [bk, .list [fr (0 - lo), fr hi], .int 2, .list [.int 1], .list [row2]] = some (if lo ≤ hi then .tuple [fr hi] else .none) := by
    intro n
    rw [r_face]
    unfold fnD s_face_point
    have hr : rng2 [.int 2, .int 2] = some [] := by kernel_rfl
    simp at p2 w2
    by_cases h : lo ≤ hi
    · simp [bk_len, hr, hbk1, hbk, row2, eLc, anyM, wipeE, restE, lcL, p2, w2, h]
    · simp [bk_len, hr, hbk1, hbk, row2, eLc, anyM, wipeE, restE, lcL, p2, w2, h]
  have f0 : ∀ n, r_face_point (n + 2) [bk, .list [fr (0 - lo), fr hi], .int 0, .list [], .list []] = some (if lo ≤ hi then .tuple [fr lo] else .none) := by
    intro n
    rw [r_face]
    have e1 := f1 n
    have e2 := f2 n
    unfold fnD s_face_point
    have hr : rng2 [.int 0, .int 2] = some [.int 0, .int 1] := by kernel_rfl
    simp at e1 e2
    by_cases h : lo ≤ hi
    · simp [bk_len, hr, hbk1, hbk, v_r1, h] at e1 e2 ⊢
      simp [e1]
    · simp [bk_len, hr, hbk1, hbk, v_r1, v_r2, h] at e1 e2 ⊢
      simp [e1, e2, hbk1, v_r2]
  unfold gm_some_point g_some_point fnD s_some_point
  have f : gm_face_point [bk, .list [fr (0 - lo), fr hi], .int 0, .list [], .list []] = some (if lo ≤ hi then .tuple [fr lo] else .none) := f0 6
  have q : gEq (.list [.tuple [.tuple [.int (-1)], fr (-lo)], .tuple [.tuple [.int 1], fr hi]]) (.list []) = some (.bool false) := by
    kernel_rfl
  simp [bk] at f
  simp [fr] at q f ⊢
  simp [bk, zipG, zipD, eLc, anyM, wipeE, restE, lcL, q, f]
theorem v_taken {a : Int} (ha : Sm a) : gm_taken [.tuple [.int 1, .int 1], fr a] = some (fr a) := by
  have h := v_lowest a
  unfold gm_taken g_taken fnD s_taken
  simp [fr] at h ⊢
  simp [ha, h]
theorem v_gr1 {a b : Int} (ha : Sm a) (hb : Sm b) : gm_greatest_in [bk, .list [fr a, fr b], .tuple [.int (-1)]] = some (fr a) := by
  have e1 := v_taken ha
  have e2 := v_summed1 ha
  have e3 := v_pw1
  unfold gm_greatest_in g_greatest_in fnD s_greatest_in
  simp [bk] at e3
  simp [fr] at e1 e2 ⊢
  simp [bk, enuG, enuD, zipG, zipD, eLc, anyM, wipeE, restE, lcL, e1, e2, e3]
theorem v_gr2 {a b : Int} (ha : Sm a) (hb : Sm b) : gm_greatest_in [bk, .list [fr a, fr b], .tuple [.int 1]] = some (fr b) := by
  have e1 := v_taken hb
  have e2 := v_summed1 hb
  have e3 := v_pw2
  unfold gm_greatest_in g_greatest_in fnD s_greatest_in
  simp [bk] at e3
  simp [fr] at e1 e2 ⊢
  simp [bk, enuG, enuD, zipG, zipD, eLc, anyM, wipeE, restE, lcL, e1, e2, e3]
theorem v_nw (a b : Int) : gm_need_world [bk, .list [fr a, fr b]] = some .none := by
  have e1 := v_frac a
  have e2 := v_frac b
  have h2 : gAll (.list [.bool true, .bool true]) = some (.bool true) := by kernel_rfl
  have h3 : gNe (.int 2) (.int 2) = some (.bool false) := by kernel_rfl
  unfold gm_need_world g_need_world fnD s_need_world
  have : gm_are_bounds [bk, .list [fr a, fr b]] = some (.bool true) := by
    unfold gm_are_bounds g_are_bounds fnD s_are_bounds
    simp [fr] at e1 e2 ⊢
    simp [isT, bk, h3, eLc, anyM, wipeE, restE, lcL, e1, e2, h2]
  simp [this]
theorem v_tight {lo hi : Int} (h1 : Sm lo) (h2 : Sm hi) (h : lo ≤ hi) : gm_tight [bk, .list [fr (0 - lo), fr hi]] = some (.list [fr (0 - lo), fr hi]) := by
  have ha : Sm (0 - lo) := by simpa using h1
  have e0 := v_book
  have e1 := v_nw (0 - lo) hi
  have e2 := v_sp h1 h2
  have e3 := v_gr1 ha h2
  have e4 := v_gr2 ha h2
  have e5 : gm_need_one [bk, .list [fr (0 - lo), fr hi]] = some .none := by
    unfold gm_need_one g_need_one fnD s_need_one
    simp at e1
    simp [e0, e1]
  have e6 : gm_need_points [bk, .list [fr (0 - lo), fr hi]] = some .none := by
    unfold gm_need_points g_need_points fnD s_need_points
    simp at e2
    simp [e2, h]
  have e7 : gm_tight_in [bk, .list [fr (0 - lo), fr hi]] = some (.list [fr (0 - lo), fr hi]) := by
    unfold gm_tight_in g_tight_in fnD s_tight_in
    simp [bk] at e3 e4
    simp [bk, eLc, anyM, wipeE, restE, lcL, e3, e4]
  unfold gm_tight g_tight fnD s_tight
  simp at e5 e6 e7
  simp [e5, e6, e7]
end CS
set_option Elab.async false
set_option linter.all false
set_option maxRecDepth 100000
set_option maxHeartbeats 4000000
set_option autoImplicit false
namespace CS
open PySem PySem.Spec PyProof.Rows L2
/-! ### sorting pairs -/
def leII (a b : Int × Int) : Bool := !decide (b.1 < a.1 ∨ (b.1 = a.1 ∧ b.2 < a.2))
theorem srt_map {α : Type} (enc : α → D) (le : α → α → Bool) (h : ∀ a b, le a b = PySem.W.dataLe false id (enc a) (enc b)) (as : List α) : srt (as.map enc) = (as.mergeSort le).map enc :=
  (PySem.W.sort_maps enc fun a _ b _ => h a b).symm
theorem le_rg (a b : Int × Int) : leII a b = PySem.W.dataLe false id (rg a) (rg b) := by
  show _ = (!PySem.W.dataLt (rg b) (rg a))
  unfold leII rg
  rw [PySem.W.dataLt_ii]
theorem srt_rg (as : List (Int × Int)) : srt (as.map rg) = (as.mergeSort leII).map rg := srt_map rg leII le_rg as
theorem lay_all {α : Type} (enc : α → D) (h : ∀ a, (enc a).canLay0 = true) : ∀ as : List α, PyData.canLayAll0 (as.map enc) = true
  | [] => rfl
  | a :: as => by
    show ((enc a).canLay0 && PyData.canLayAll0 (as.map enc)) = true
    rw [h a, lay_all enc h as]
    rfl
theorem sortOk_of {α : Type} (enc : α → D) (as : List α) (h1 : ∀ a b, PySem.W.alike (enc a) (enc b) = true) (h2 : (∀ a, tupNe (enc a) = true) ∨ ∀ a, notTup (enc a) = true) (h3 : ∀ a, (enc a).canLay0 = true) (h4 : ∀ a, (enc a).depth ≤ 32) : sortOk (as.map enc) = true := by
  unfold sortOk
  rw [Bool.and_eq_true, Bool.and_eq_true, Bool.and_eq_true, Bool.or_eq_true]
  refine ⟨?_, ?_, lay_all enc h3 as, ?_⟩
  · rw [List.all_eq_true]
    intro d hd
    rw [List.all_eq_true]
    intro d' hd'
    obtain ⟨a, _, rfl⟩ := List.mem_map.mp hd
    obtain ⟨b, _, rfl⟩ := List.mem_map.mp hd'
    exact h1 a b
  · rcases h2 with h2 | h2
    · refine .inl ?_
      rw [List.all_eq_true]
      intro d hd
      obtain ⟨a, _, rfl⟩ := List.mem_map.mp hd
      exact h2 a
    · refine .inr ?_
      rw [List.all_eq_true]
      intro d hd
      obtain ⟨a, _, rfl⟩ := List.mem_map.mp hd
      exact h2 a
  · rw [List.all_eq_true]
    intro d hd
    obtain ⟨a, _, rfl⟩ := List.mem_map.mp hd
    exact decide_eq_true (h4 a)
theorem gSort_rg (as : List (Int × Int)) (hl : as.length ≤ 16777216) : gSort (.list (as.map rg)) = some ((as.mergeSort leII).map rg) :=
  gSort_of (sortOk_of rg as (fun a b => rfl) (.inl fun a => rfl) (fun a => rfl) (fun a => by show (rg a).depth ≤ 32; exact Nat.le_of_ble_eq_true rfl)) (by rw [List.length_map]; exact hl) (srt_rg as)
theorem leII_trans (a b c : Int × Int) : leII a b = true → leII b c = true → leII a c = true := by
  unfold leII
  simp
  omega
theorem leII_total (a b : Int × Int) : (leII a b || leII b a) = true := by
  unfold leII
  simp
  omega
theorem leII_pair (as : List (Int × Int)) : (as.mergeSort leII).Pairwise fun a b => leII a b = true := List.pairwise_mergeSort leII_trans leII_total as
/-! ### ranges -/
def rgs (L : List (Int × Int)) : D := .list (L.map rg)
/-- a list of ranges -/
structure Rgs (L : List (Int × Int)) : Prop where
  pos : 1 ≤ L.length
  len : L.length ≤ 400
  le : ∀ p ∈ L, p.1 ≤ p.2
theorem v_nr {L : List (Int × Int)} (h : Rgs L) : gm_need_ranges [rgs L] = some .none := by
  unfold gm_need_ranges g_need_ranges fnD s_need_ranges
  have f1 : (1 : Int) ≤ (L.length : Int) := by have := h.pos; omega
  have f2 : (L.length : Int) ≤ 400 := by have := h.len; omega
  simp [isT, rgs, f1, f2, enuG, enuD_map]
  obtain ⟨ρ', e, o1, o2, rfl⟩ := for_inv (fun q : (Int × Int) × Nat => PyData.tuple [.int (q.2 : Int), rg q.1]) (b := bdT 2 (bdCons (bd 1) (bdCons (bd 2) bdNil))) (s := sIf (eOr (eNot (eT (eAs gm_are_integers (eAc (eV 2) (eAc (ep (.int 2)) eAn))))) (eT (e2 gGt (e2 gIx (eV 2) (ep (.int 0))) (e2 gIx (eV 2) (ep (.int 1)))))) sNo sNx)
    (fun _ ρ => ∃ o1 o2, ρ = [some (.d (.list (L.map rg))), Od o1, Od o2]) (L.zipIdx 0) (ρ := [some (.d (.list (L.map rg))), none, none]) ⟨none, none, rfl⟩ (fun pre a post ρ hz ⟨o1, o2, hρ⟩ => by
      subst hρ
      have hm : a ∈ L.zipIdx 0 := by rw [hz]; simp
      have hp : a.1 ∈ L := List.mem_of_getElem? (List.mk_mem_zipIdx_iff_getElem?.mp hm)
      have hle := h.le _ hp
      have hlt : ¬ (a.1.2 < a.1.1) := by omega
      refine ⟨[some (.d (.list (L.map rg))), some (.d (.int (a.2 : Int))), some (.d (rg a.1))], [some (.d (.list (L.map rg))), some (.d (.int (a.2 : Int))), some (.d (rg a.1))], by simp, ?_, some (.int a.2), some (rg a.1), rfl⟩
      have := v_ints2 a.1.1 a.1.2
      simp [rg, this, hlt])
  rw [e]
/-- the ends of ranges, in order -/
def evs (L : List (Int × Int)) : List (Int × Int) := List.mergeSort ((L.map fun p : Int × Int => (p.1, (0 : Int))) ++ (L.map fun p : Int × Int => (p.2, (1 : Int)))) leII
def swS (s : Int × Int) (e : Int × Int) : Int × Int := if s.2 < s.1 + 1 - 2 * e.2 then (s.1 + 1 - 2 * e.2, s.1 + 1 - 2 * e.2) else (s.1 + 1 - 2 * e.2, s.2)
def dep (L : List (Int × Int)) : Int := ((evs L).foldl swS (0, 0)).2
theorem v_crowd {L : List (Int × Int)} (hl : L.length ≤ 400) : ∃ z, gm_crowd_in [rgs L] = some (.tuple [.int (dep L), z]) := by
  have c1 : eLc [7, 8] (eIs (eV 0)) (bdT 2 (bdCons (bd 7) (bdCons (bd 8) bdNil))) (ep true) (eAs gTp (eAc (eV 7) (eAc (ep (.int 0)) eAn))) [some (.d (rgs L)), none, none, none, none, none, none, none, none] = some ((L.map fun p => (p.1, (0 : Int))).map rg, [some (.d (rgs L)), none, none, none, none, none, none, none, none]) := by
    rw [List.map_map]
    exact lc_map rg _ L (by simp [rgs]) rfl (by omega) fun p hp => ⟨[some (.d (rgs L)), none, none, none, none, none, none, some (.d (.int p.1)), some (.d (.int p.2))], by simp [wipeE, rg], rfl, fun _ => by simp [rg], rfl⟩
  have c2 : eLc [7, 8] (eIs (eV 0)) (bdT 2 (bdCons (bd 7) (bdCons (bd 8) bdNil))) (ep true) (eAs gTp (eAc (eV 8) (eAc (ep (.int 1)) eAn))) [some (.d (rgs L)), none, none, none, none, none, none, none, none] = some ((L.map fun p => (p.2, (1 : Int))).map rg, [some (.d (rgs L)), none, none, none, none, none, none, none, none]) := by
    rw [List.map_map]
    exact lc_map rg _ L (by simp [rgs]) rfl (by omega) fun p hp => ⟨[some (.d (rgs L)), none, none, none, none, none, none, some (.d (.int p.1)), some (.d (.int p.2))], by simp [wipeE, rg], rfl, fun _ => by simp [rg], rfl⟩
  have c3 := gSort_rg ((L.map fun p => (p.1, (0 : Int))) ++ (L.map fun p => (p.2, (1 : Int)))) (by simp; omega)
  rw [List.map_append] at c3
  have hm : ∀ e ∈ evs L, Sm e.2 := fun e he => by
    have := List.mem_mergeSort.mp he
    rcases List.mem_append.mp this with h | h <;> obtain ⟨p, _, rfl⟩ := List.mem_map.mp h
    · exact Sm_0
    · exact Sm_1
  unfold gm_crowd_in g_crowd_in fnD s_crowd_in
  obtain ⟨ρ', e, o4, o5, o6, rfl⟩ := for_inv rg (b := bdT 2 (bdCons (bd 5) (bdCons (bd 6) bdNil))) (s := sSq (sA 2 (e2 gSub (e2 gAdd (eV 2) (ep (.int 1))) (e2 gMul (ep (.int 2)) (eV 6))))
      (sIf (eT (e2 gGt (eV 2) (eV 3))) (sPar [3, 4] [(Itm.e (eV 2)), (Itm.e (eV 5))]) sNx))
    (fun pre ρ => ∃ o4 o5 o6, ρ = [some (.d (rgs L)), some (.d (.list ((evs L).map rg))), some (.d (.int (pre.foldl swS (0, 0)).1)), some (.d (.int (pre.foldl swS (0, 0)).2)), some (.d o4), Od o5, Od o6, none, none]) (evs L)
    (ρ := [some (.d (rgs L)), some (.d (.list ((evs L).map rg))), some (.d (.int 0)), some (.d (.int 0)), some (.d .none), none, none, none, none]) ⟨.none, none, none, rfl⟩ (fun pre a post ρ hz ⟨o4, o5, o6, hρ⟩ => by
      subst hρ
      have ha : Sm a.2 := hm a (by rw [hz]; simp)
      have e : (pre ++ [a]).foldl swS (0, 0) = swS (pre.foldl swS (0, 0)) a := by rw [List.foldl_append]; rfl
      rw [e]
      generalize pre.foldl swS (0, 0) = s
      unfold swS
      by_cases h : s.2 < s.1 + 1 - 2 * a.2
      · refine ⟨[some (.d (rgs L)), some (.d (.list ((evs L).map rg))), some (.d (.int s.1)), some (.d (.int s.2)), some (.d o4), some (.d (.int a.1)), some (.d (.int a.2)), none, none], _, by simp [rg], by simp [ha, h]; exact rfl, .int a.1, some (.int a.1), some (.int a.2), by simp [h]⟩
      · refine ⟨[some (.d (rgs L)), some (.d (.list ((evs L).map rg))), some (.d (.int s.1)), some (.d (.int s.2)), some (.d o4), some (.d (.int a.1)), some (.d (.int a.2)), none, none], _, by simp [rg], by simp [ha, h]; exact rfl, o4, some (.int a.1), some (.int a.2), by simp [h]⟩)
  refine ⟨o4, ?_⟩
  have hle : L.length + L.length ≤ 16777216 := by omega
  simp at c1 c2 c3
  simp [c1, c2, hle, c3]
  simp [evs] at e
  simp [e, dep, evs]
theorem v_depth {L : List (Int × Int)} (h : Rgs L) : gm_depth_of [rgs L] = some (.int (dep L)) := by
  obtain ⟨z, e⟩ := v_crowd h.len
  unfold gm_depth_of g_depth_of fnD s_depth_of
  simp [v_nr h, e]
theorem v_fleft {L : List (Int × Int)} (h : Rgs L) : gm_fewest_left [rgs L] = some (.int (L.length - dep L)) := by
  obtain ⟨z, e⟩ := v_crowd h.len
  unfold gm_fewest_left g_fewest_left fnD s_fewest_left
  have hn := v_nr h
  simp [rgs] at hn e
  simp [rgs, hn, e]
end CS
set_option Elab.async false
set_option linter.all false
set_option maxRecDepth 100000
set_option maxHeartbeats 4000000
set_option autoImplicit false
namespace CS
open PySem PySem.Spec PyProof.Rows L2
/-! ### ranges by their ends -/
abbrev Rq := (Int × Int) × Nat
def keyQ (q : Rq) : Int × Int := (q.1.2, (q.2 : Int))
def leQ (a b : Rq) : Bool := leII (keyQ a) (keyQ b)
def ord (L : List (Int × Int)) : List Rq := (L.zipIdx 0).mergeSort leQ
def nq (q : Rq) : D := nt q.2
theorem ord_get {L : List (Int × Int)} {q : Rq} (h : q ∈ ord L) : L[q.2]? = some q.1 := by
  have h : q ∈ L.zipIdx 0 := List.mem_mergeSort.mp h
  exact List.mk_mem_zipIdx_iff_getElem?.mp h
theorem ord_len (L : List (Int × Int)) : (ord L).length = L.length := by
  unfold ord
  rw [List.length_mergeSort, List.length_zipIdx]
theorem v_byends {L : List (Int × Int)} (hl : L.length ≤ 400) : gm_by_ends [rgs L] = some (.list ((ord L).map nq)) := by
  have c1 : eLc [2, 3] (eAs enuG (eAc (eV 0) eAn)) (bdT 2 (bdCons (bd 2) (bdCons (bd 3) bdNil))) (ep true) (eAs gTp (eAc (e2 gIx (eV 3) (ep (.int 1))) (eAc (eV 2) eAn))) [some (.d (rgs L)), none, none, none] = some ((L.zipIdx 0).map (fun q => rg (keyQ q)), [some (.d (rgs L)), none, none, none]) :=
    lc_map (fun q : Rq => PyData.tuple [.int (q.2 : Int), rg q.1]) _ (L.zipIdx 0) (by simp [rgs, enuG, enuD_map]) rfl (by rw [List.length_zipIdx]; omega) fun q hq => ⟨[some (.d (rgs L)), none, some (.d (.int (q.2 : Int))), some (.d (rg q.1))], by simp [wipeE], rfl, fun _ => by simp [rg, keyQ], rfl⟩
  have c2 := gSort_rg ((L.zipIdx 0).map keyQ) (by rw [List.length_map, List.length_zipIdx]; omega)
  have c3 : ((L.zipIdx 0).map keyQ).mergeSort leII = (ord L).map keyQ := (PySem.W.sort_maps (r := leQ) keyQ fun a _ b _ => rfl).symm
  rw [c3, List.map_map, List.map_map] at c2
  have c4 : eLc [1, 2] (eIs (eL (e1 gSort (eL (eLc [2, 3] (eAs enuG (eAc (eV 0) eAn)) (bdT 2 (bdCons (bd 2) (bdCons (bd 3) bdNil))) (ep true) (eAs gTp (eAc (e2 gIx (eV 3) (ep (.int 1))) (eAc (eV 2) eAn)))))))) (bdT 2 (bdCons (bd 1) (bdCons (bd 2) bdNil))) (ep true) (eV 2) [some (.d (rgs L)), none, none, none] = some ((ord L).map nq, [some (.d (rgs L)), none, none, none]) := by
    refine lc_map (fun q : Rq => rg (keyQ q)) _ (ord L) ?_ rfl (by rw [ord_len]; omega) fun q hq => ⟨[some (.d (rgs L)), some (.d (.int q.1.2)), some (.d (.int (q.2 : Int))), none], by simp [wipeE, rg, keyQ], rfl, fun _ => by simp [nq, nt], rfl⟩
    have c2' : gSort (.list ((L.zipIdx 0).map fun q => rg (keyQ q))) = some ((ord L).map fun q => rg (keyQ q)) := c2
    rw [x_eIs, x_eL, x_e1, x_eL, c1]
    simp [c2']
  unfold gm_by_ends g_by_ends fnD s_by_ends
  rw [show (argE [rgs L] ++ List.replicate 3 none : En) = [some (.d (rgs L)), none, none, none] from rfl]
  simp only [x_sR, x_eL, c4]
  rfl
/-! ### apart -/
def apS (f : List Rq) (q : Rq) : List Rq := match f.getLast? with
  | none => f ++ [q]
  | some l => if l.1.2 < q.1.1 then f ++ [q] else f
def apL (L : List (Int × Int)) : List Rq := (ord L).foldl apS []
theorem depth_nq : ∀ f : List Rq, PyData.depthAll (f.map nq) = 0
  | [] => by simp [PyData.depthAll]
  | x :: xs => by
    show PyData.depthAll (.int (x.2 : Int) :: xs.map nq) = 0
    rw [PyData.depthAll, depth_nq xs]
    simp [PyData.depth]
theorem shp_nq (f : List Rq) : shp (.list (f.map nq)) = true := by
  unfold shp SeqAt.shaped
  rw [Bool.and_eq_true]
  refine ⟨lay_all nq (fun _ => rfl) f, decide_eq_true ?_⟩
  rw [PyData.depth, depth_nq]
  omega
theorem gEq_nil (f : List Rq) : gEq (.list (f.map nq)) (.list []) = some (.bool f.isEmpty) := by
  unfold gEq
  rw [shp_nq, show shp (.list []) = true from by kernel_rfl]
  cases f <;> rfl
theorem atI_neg1 {α : Type} (xs : List α) : atI xs (-1) = xs.getLast? := by
  unfold atI ixN
  cases xs with
  | nil => rfl
  | cons x r =>
    simp only [List.getLast?_eq_getElem?]
    have h : (1 : Int) ≤ (r.length : Int) + 1 := by omega
    have h2 : (-1 + ((r.length : Int) + 1)).toNat = r.length := by omega
    simp [h, h2]
theorem apS_ne (f : List Rq) (q : Rq) : apS f q ≠ [] := by
  unfold apS
  split
  · simp
  · split
    · simp
    · rename_i h _
      intro e
      rw [e] at h
      simp at h
theorem ap_sub {P : Rq → Prop} : ∀ (os f : List Rq), (∀ q ∈ os, P q) → (∀ q ∈ f, P q) → ∀ q ∈ os.foldl apS f, P q
  | [], f, _, h => h
  | o :: os, f, h1, h2 => ap_sub os (apS f o) (fun q hq => h1 q (List.mem_cons_of_mem _ hq)) fun q hq => by
    unfold apS at hq
    have key : q ∈ f ++ [o] → P q := fun h => by
      rcases List.mem_append.mp h with h | h
      · exact h2 q h
      · rw [List.mem_singleton.mp h]; exact h1 o List.mem_cons_self
    split at hq
    · exact key hq
    · split at hq
      · exact key hq
      · exact h2 q hq
theorem ap_len : ∀ (os f : List Rq), (os.foldl apS f).length ≤ f.length + os.length
  | [], f => by simp
  | o :: os, f => by
    have := ap_len os (apS f o)
    have h2 : (apS f o).length ≤ f.length + 1 := by
      unfold apS
      split
      · simp
      · split <;> simp
    simp only [List.foldl_cons, List.length_cons]
    omega
theorem apL_get {L : List (Int × Int)} {q : Rq} (h : q ∈ apL L) : L[q.2]? = some q.1 := ap_sub (ord L) [] (fun _ h => ord_get h) (fun _ h => by cases h) q h
theorem apL_len (L : List (Int × Int)) : (apL L).length ≤ L.length := by
  have := ap_len (ord L) []
  rw [ord_len] at this
  unfold apL
  simp at this
  exact this
theorem rgs_ix {L : List (Int × Int)} {n : Nat} {p : Int × Int} (h : L[n]? = some p) : gIx (rgs L) (.int (n : Int)) = some (rg p) := by
  unfold rgs
  rw [x_ixL, atI_ofNat, List.getElem?_map, h]
  rfl
theorem v_apart_in {L : List (Int × Int)} (hl : L.length ≤ 400) : gm_apart_in [rgs L] = some (.list ((apL L).map nq)) := by
  unfold gm_apart_in g_apart_in fnD s_apart_in
  have hb := v_byends hl
  obtain ⟨ρ', e, o2, rfl⟩ := for_inv nq (b := bd 2) (s := sIf (eOr (eT (e2L gEq 1 (eL (eAs gLs eAn)))) (eT (e2 gLtX (e2 gIx (e2 gIx (eV 0) (e2L gIx 1 (e1 gNeg (ep (.int 1))))) (ep (.int 1))) (e2 gIx (e2 gIx (eV 0) (eV 2)) (ep (.int 0)))))) (sE (eGrow 1 (eb (eV 2) fun x => ep [x]))) sNx)
    (fun pre ρ => ∃ o2, ρ = [some (.d (rgs L)), some (.m ((pre.foldl apS []).map nq)), Od o2]) (ord L)
    (ρ := [some (.d (rgs L)), some (.m []), none]) ⟨none, rfl⟩ (fun pre a post ρ hz ⟨o2, hρ⟩ => by
      subst hρ
      have e : (pre ++ [a]).foldl apS [] = apS (pre.foldl apS []) a := by rw [List.foldl_append]; rfl
      have hp : ∀ q ∈ pre.foldl apS [], L[q.2]? = some q.1 := ap_sub pre [] (fun q hq => ord_get (by rw [hz]; exact List.mem_append_left _ hq)) fun _ h => by cases h
      have hpl : (pre.foldl apS []).length ≤ 400 := by
        have h1 := ap_len pre []
        have h2 : pre.length ≤ L.length := by
          rw [← ord_len L, hz, List.length_append]
          omega
        simp at h1
        omega
      have ha := ord_get (L := L) (q := a) (by rw [hz]; simp)
      rw [e]
      generalize pre.foldl apS [] = f at hp hpl
      have hf1 : f.length + 1 ≤ 16777216 := by omega
      refine ⟨[some (.d (rgs L)), some (.m (f.map nq)), some (.d (nq a))], [some (.d (rgs L)), some (.m ((apS f a).map nq)), some (.d (nq a))], by simp, ?_, some (nq a), rfl⟩
      have hge := gEq_nil f
      have hia : gIx (rgs L) (nq a) = some (rg a.1) := rgs_ix ha
      rcases List.eq_nil_or_concat f with rfl | ⟨g, l, hgl0⟩
      · simp at hge
        simp [hge, apS, eb]
      · rw [List.concat_eq_append] at hgl0
        subst hgl0
        have hil : gIx (rgs L) (nq l) = some (rg l.1) := rgs_ix (hp l (by simp))
        have hln : atI (List.map nq g ++ [nq l]) (-1) = some (nq l) := by rw [atI_neg1]; simp
        have hgl : (g ++ [l]).getLast? = some l := by simp
        have hie : (g ++ [l]).isEmpty = false := by cases g <;> rfl
        rw [hie] at hge
        simp at hge hf1
        by_cases h : l.1.2 < a.1.1
        · simp [hge, eb, hln, hil, hia, rg, h, apS, hgl, hf1]
        · simp [hge, eb, hln, hil, hia, rg, h, apS, hgl, hf1])
  simp [hb, e]
  rfl
theorem gSort_nq (f : List Rq) (hl : f.length ≤ 16777216) : gSort (.list (f.map nq)) = some ((f.mergeSort fun a b => PySem.W.dataLe false id (nq a) (nq b)).map nq) :=
  gSort_of (sortOk_of nq f (fun a b => rfl) (.inr fun a => rfl) (fun a => rfl) (fun a => by show (nq a).depth ≤ 32; exact Nat.le_of_ble_eq_true rfl)) (by rw [List.length_map]; exact hl) (srt_map nq _ (fun a b => rfl) f)
theorem v_apart {L : List (Int × Int)} (h : Rgs L) : ∃ xs, xs.length = (apL L).length ∧ gm_apart [rgs L] = some (.list xs) := by
  have e1 := v_apart_in h.len
  have e2 := gSort_nq (apL L) (by have := apL_len L; have := h.len; omega)
  refine ⟨((apL L).mergeSort fun a b => PySem.W.dataLe false id (nq a) (nq b)).map nq, by simp, ?_⟩
  unfold gm_apart g_apart fnD s_apart
  simp [v_nr h, e1, e2]
theorem v_hitting {L : List (Int × Int)} (h : Rgs L) : gm_hitting [rgs L] = some (.list ((apL L).map fun q => .int q.1.2)) := by
  have e1 := v_apart_in h.len
  have c1 : eLc [1] (eIs (eAs gm_apart_in (eAc (eV 0) eAn))) (bd 1) (ep true) (e2 gIx (e2 gIx (eV 0) (eV 1)) (ep (.int 1))) [some (.d (rgs L)), none] = some ((apL L).map fun q => .int q.1.2, [some (.d (rgs L)), none]) :=
    lc_map nq _ (apL L) (by simp [e1]) rfl (by have := apL_len L; have := h.len; omega) fun q hq => ⟨[some (.d (rgs L)), some (.d (nq q))], by simp [wipeE], rfl, fun _ => by
      have : gIx (rgs L) (nq q) = some (rg q.1) := rgs_ix (apL_get hq)
      simp [this, rg], rfl⟩
  unfold gm_hitting g_hitting fnD s_hitting
  simp [v_nr h, c1]
end CS
set_option Elab.async false
set_option linter.all false
set_option maxRecDepth 100000
set_option maxHeartbeats 4000000
set_option autoImplicit false
namespace CS
open PySem PySem.Spec PyProof.Rows L2
/-! ### rooms -/
def mxI (xs : List Int) : Int := match xs with
  | [] => 0
  | x :: r => r.foldl (fun a b => if b > a then b else a) x
theorem mxI_mem {xs : List Int} (h : xs ≠ []) : mxI xs ∈ xs := by
  cases xs with
  | nil => exact absurd rfl h
  | cons x r => exact (maxI_fold r x).1
theorem mxI_ge {xs : List Int} {y : Int} (h : y ∈ xs) : y ≤ mxI xs := by
  cases xs with
  | nil => cases h
  | cons x r => exact (maxI_fold r x).2 y h
theorem gMax_ints {xs : List Int} (h : xs ≠ []) : gMax (.list (xs.map .int)) = some (.int (mxI xs)) := by
  unfold gMax intsOf
  simp only [intsD_map]
  cases xs with
  | nil => exact absurd rfl h
  | cons x r => rfl
def mnI (xs : List Int) : Int := match xs with
  | [] => 0
  | x :: r => r.foldl (fun a b => if b < a then b else a) x
theorem mnI_mem {xs : List Int} (h : xs ≠ []) : mnI xs ∈ xs := by
  cases xs with
  | nil => exact absurd rfl h
  | cons x r => exact (minI_fold r x).1
theorem mnI_le {xs : List Int} {y : Int} (h : y ∈ xs) : mnI xs ≤ y := by
  cases xs with
  | nil => cases h
  | cons x r => exact (minI_fold r x).2 y h
theorem gMin_ints {xs : List Int} (h : xs ≠ []) : gMin (.list (xs.map .int)) = some (.int (mnI xs)) := by
  unfold gMin intsOf
  simp only [intsD_map]
  cases xs with
  | nil => exact absurd rfl h
  | cons x r => rfl
theorem rm_ints {xs : List Int} {k : Int} (h : k ∈ xs) : rmI (xs.map .int) (.int k) = some ((xs.erase k).map .int) := by
  unfold rmI
  simp only [intsD_map]
  rw [List.contains_iff_mem.mpr h]
theorem depth_int : ∀ f : List Int, PyData.depthAll (f.map .int) = 0 := PySem.W.depth_ints
theorem shp_int (f : List Int) : shp (.list (f.map .int)) = true := by
  unfold shp SeqAt.shaped
  rw [Bool.and_eq_true]
  refine ⟨lay_all _ (fun _ => rfl) f, decide_eq_true ?_⟩
  rw [PyData.depth, depth_int]
  omega
theorem gNe_nil (f : List Int) : gNe (.list (f.map .int)) (.list []) = some (.bool (!f.isEmpty)) := by
  unfold gNe
  rw [shp_int, show shp (.list []) = true from by kernel_rfl]
  cases f <;> rfl
/-- one range's turn: the ends of the rooms, how many are in -/
def rmS (rooms : Int) (s : List Int × Int) (q : Rq) : List Int × Int :=
  if (s.1.filter fun e => decide (e < q.1.1)) ≠ [] then (s.1.erase (mxI (s.1.filter fun e => decide (e < q.1.1))) ++ [q.1.2], s.2 + 1)
  else if (s.1.length : Int) < rooms then (s.1 ++ [q.1.2], s.2 + 1) else s
def rmL (L : List (Int × Int)) (rooms : Int) : Int := ((ord L).foldl (rmS rooms) ([], 0)).2
theorem rm_len (rooms : Int) : ∀ (os : List Rq) (s : List Int × Int), (os.foldl (rmS rooms) s).1.length ≤ s.1.length + os.length
  | [], s => by simp
  | o :: os, s => by
    have := rm_len rooms os (rmS rooms s o)
    have h2 : (rmS rooms s o).1.length ≤ s.1.length + 1 := by
      unfold rmS
      split
      · have := List.length_erase_le (a := mxI (s.1.filter fun e => decide (e < o.1.1))) (l := s.1)
        simp only [List.length_append, List.length_cons, List.length_nil]
        omega
      · split <;> simp
    simp only [List.foldl_cons, List.length_cons]
    omega
noncomputable def s_room : SS := sSq (sTg (e2 gIx (eV 0) (eV 4)) (bdT 2 (bdCons (bd 5) (bdCons (bd 6) bdNil))))
  (sSq (sA 7 (eL (eLcM [8] 2 (bd 8) (eT (e2 gLtX (eV 8) (eV 5))) (eV 8))))
  (sSq (sIf (eT (e2 gNe (eV 7) (eL (eAs gLs eAn)))) (sE (eRem 2 (e1 gMax (eV 7)))) sNx)
  (sIf (eOr (eT (e2 gNe (eV 7) (eL (eAs gLs eAn)))) (eT (e2 gLtX (e1 gLen (eMb 2)) (eV 1)))) (sSq (sE (eGrow 2 (eb (eV 6) fun x => ep [x])))
  (sAug 3 (fun i j => i + j) (ep (.int 1)))) sNx)))
theorem gI_true {g : Int → Int → Int} {i j : Int} : gI (fun _ _ => true) g (.int i) (.int j) = some (.int (g i j)) := rfl
theorem v_room {L : List (Int × Int)} {rooms : Int} {s : List Int × Int} {q : Rq} (hq : L[q.2]? = some q.1) (hl : s.1.length ≤ 1000) {o5 o6 o7 : Option D} :
    s_room [some (.d (rgs L)), some (.d (.int rooms)), some (.m (s.1.map .int)), some (.d (.int s.2)), some (.d (nq q)), Od o5, Od o6, Od o7, none] =
      some (.nx, [some (.d (rgs L)), some (.d (.int rooms)), some (.m ((rmS rooms s q).1.map .int)), some (.d (.int (rmS rooms s q).2)), some (.d (nq q)), some (.d (.int q.1.1)), some (.d (.int q.1.2)), some (.d (.list ((s.1.filter fun e => decide (e < q.1.1)).map .int))), none]) := by
  have hia : gIx (rgs L) (nq q) = some (rg q.1) := rgs_ix hq
  have c1 : eLcM [8] 2 (bd 8) (eT (e2 gLtX (eV 8) (eV 5))) (eV 8) [some (.d (rgs L)), some (.d (.int rooms)), some (.m (s.1.map .int)), some (.d (.int s.2)), some (.d (nq q)), some (.d (.int q.1.1)), some (.d (.int q.1.2)), Od o7, none] =
      some ((s.1.filter fun e => decide (e < q.1.1)).map .int, [some (.d (rgs L)), some (.d (.int rooms)), some (.m (s.1.map .int)), some (.d (.int s.2)), some (.d (nq q)), some (.d (.int q.1.1)), some (.d (.int q.1.2)), Od o7, none]) :=
    lcM_val .int .int (fun e => decide (e < q.1.1)) s.1 rfl rfl (by omega) fun e he => ⟨[some (.d (rgs L)), some (.d (.int rooms)), some (.m (s.1.map .int)), some (.d (.int s.2)), some (.d (nq q)), some (.d (.int q.1.1)), some (.d (.int q.1.2)), Od o7, some (.d (.int e))], by simp [wipeE], by simp, fun _ => by simp, rfl⟩
  have hne := gNe_nil (s.1.filter fun e => decide (e < q.1.1))
  unfold s_room rmS
  by_cases hf : (s.1.filter fun e => decide (e < q.1.1)) = []
  · rw [hf] at c1 hne
    have hl2 : s.1.length + 1 ≤ 16777216 := by omega
    simp at c1 hne
    by_cases hr : (s.1.length : Int) < rooms
    · simp [hia, rg, c1, hne, hf, hr, eb, hl2, gI_true]
    · simp [hia, rg, c1, hne, hf, hr, eb, hl2]
  · have hm := mxI_mem hf
    have hm1 : mxI (s.1.filter fun e => decide (e < q.1.1)) ∈ s.1 := (List.mem_filter.mp hm).1
    have hmx := gMax_ints hf
    have hrm := rm_ints hm1
    have hie : (s.1.filter fun e => decide (e < q.1.1)).isEmpty = false := by
      cases h : (s.1.filter fun e => decide (e < q.1.1)) with
      | nil => exact absurd h hf
      | cons _ _ => rfl
    have hl3 : (s.1.erase (mxI (s.1.filter fun e => decide (e < q.1.1)))).length + 1 ≤ 16777216 := by
      have := List.length_erase_le (a := mxI (s.1.filter fun e => decide (e < q.1.1))) (l := s.1)
      omega
    rw [hie] at hne
    generalize s.1.filter (fun e => decide (e < q.1.1)) = ft at *
    simp [hia, rg, c1, hne, hf, hmx, hrm, eb, hl3, gI_true]
theorem v_roomed {L : List (Int × Int)} (hl : L.length ≤ 400) (rooms : Int) : gm_roomed [rgs L, .int rooms] = some (.int (rmL L rooms)) := by
  unfold gm_roomed g_roomed fnD s_roomed
  have hb := v_byends hl
  obtain ⟨ρ', e, o4, o5, o6, o7, rfl⟩ := for_inv nq (b := bd 4) (s := s_room)
    (fun pre ρ => ∃ o4 o5 o6 o7, ρ = [some (.d (rgs L)), some (.d (.int rooms)), some (.m ((pre.foldl (rmS rooms) ([], 0)).1.map .int)), some (.d (.int (pre.foldl (rmS rooms) ([], 0)).2)), Od o4, Od o5, Od o6, Od o7, none]) (ord L)
    (ρ := [some (.d (rgs L)), some (.d (.int rooms)), some (.m []), some (.d (.int 0)), none, none, none, none, none]) ⟨none, none, none, none, rfl⟩ (fun pre a post ρ hz ⟨o4, o5, o6, o7, hρ⟩ => by
      subst hρ
      have e : (pre ++ [a]).foldl (rmS rooms) ([], 0) = rmS rooms (pre.foldl (rmS rooms) ([], 0)) a := by rw [List.foldl_append]; rfl
      have ha := ord_get (L := L) (q := a) (by rw [hz]; simp)
      have hpl : (pre.foldl (rmS rooms) ([], 0)).1.length ≤ 1000 := by
        have h1 := rm_len rooms pre ([], 0)
        have h2 : pre.length ≤ L.length := by
          rw [← ord_len L, hz, List.length_append]
          omega
        simp at h1
        omega
      rw [e]
      exact ⟨[some (.d (rgs L)), some (.d (.int rooms)), some (.m ((pre.foldl (rmS rooms) ([], 0)).1.map .int)), some (.d (.int (pre.foldl (rmS rooms) ([], 0)).2)), some (.d (nq a)), Od o5, Od o6, Od o7, none], _, by simp, v_room ha hpl, some (nq a), some (.int a.1.1), some (.int a.1.2), some (.list _), rfl⟩)
  unfold s_room at e
  simp [hb]
  simp [e, rmL]
end CS
set_option Elab.async false
set_option linter.all false
set_option maxRecDepth 100000
set_option maxHeartbeats 4000000
set_option autoImplicit false
namespace CS
open PySem PySem.Spec PyProof.Rows L2
theorem cut_take (xs : List D) (n : Nat) : cutD xs none (some (n : Int)) = xs.take n := by
  unfold cutD
  rw [HT.sIx_nat, HT.sIx_none, List.drop_zero, Nat.sub_zero, List.take_eq_take_min (i := n)]
/-! ### meeting pairs -/
def mt (a b : Int × Int) : Bool := decide (b.1 ≤ a.2) && decide (a.1 ≤ b.2)
def mpS (L : List (Int × Int)) (s : Int) (q : Rq) : Int := s + (((L.take q.2).filter fun o => mt q.1 o).length : Int)
def mpL (L : List (Int × Int)) : Int := (L.zipIdx 0).foldl (mpS L) 0
theorem v_mpairs {L : List (Int × Int)} (h : Rgs L) : gm_meeting_pairs [rgs L] = some (.int (mpL L)) := by
  unfold gm_meeting_pairs g_meeting_pairs fnD s_meeting_pairs
  have hl := h.len
  obtain ⟨ρ', e, o2, o3, o4, rfl⟩ := for_inv (fun q : Rq => PyData.tuple [.int (q.2 : Int), rg q.1]) (b := bdT 2 (bdCons (bd 2) (bdCons (bdT 2 (bdCons (bd 3) (bdCons (bd 4) bdNil))) bdNil))) (s := sAug 1 (fun i j => i + j) (e1 gLen (eL (eLc [5] (eIs (eSl (eV 0) (ep none) (e1 intD (eV 2)))) (bd 5) (eAnd (eT (e2 gLe (e2 gIx (eV 5) (ep (.int 0))) (eV 4))) (eT (e2 gLe (eV 3) (e2 gIx (eV 5) (ep (.int 1)))))) (eV 5)))))
    (fun pre ρ => ∃ o2 o3 o4, ρ = [some (.d (rgs L)), some (.d (.int (pre.foldl (mpS L) 0))), Od o2, Od o3, Od o4, none]) (L.zipIdx 0)
    (ρ := [some (.d (rgs L)), some (.d (.int 0)), none, none, none, none]) ⟨none, none, none, rfl⟩ (fun pre a post ρ hz ⟨o2, o3, o4, hρ⟩ => by
      subst hρ
      have e : (pre ++ [a]).foldl (mpS L) 0 = mpS L (pre.foldl (mpS L) 0) a := by rw [List.foldl_append]; rfl
      rw [e]
      generalize pre.foldl (mpS L) 0 = s
      have c1 : eLc [5] (eIs (eSl (eV 0) (ep none) (e1 intD (eV 2)))) (bd 5) (eAnd (eT (e2 gLe (e2 gIx (eV 5) (ep (.int 0))) (eV 4))) (eT (e2 gLe (eV 3) (e2 gIx (eV 5) (ep (.int 1)))))) (eV 5) [some (.d (rgs L)), some (.d (.int s)), some (.d (.int (a.2 : Int))), some (.d (.int a.1.1)), some (.d (.int a.1.2)), none] =
          some (((L.take a.2).filter fun o => mt a.1 o).map rg, [some (.d (rgs L)), some (.d (.int s)), some (.d (.int (a.2 : Int))), some (.d (.int a.1.1)), some (.d (.int a.1.2)), none]) :=
        lc_val rg rg (fun o => mt a.1 o) (L.take a.2) (by simp [eb, rgs, gSl, cut_take]) rfl (by rw [List.length_take]; omega) fun o ho => ⟨[some (.d (rgs L)), some (.d (.int s)), some (.d (.int (a.2 : Int))), some (.d (.int a.1.1)), some (.d (.int a.1.2)), some (.d (rg o))], by simp [wipeE], by
          by_cases h1 : o.1 ≤ a.1.2
          · simp [rg, mt, h1]
          · simp [rg, mt, h1], fun _ => by simp, rfl⟩
      refine ⟨[some (.d (rgs L)), some (.d (.int s)), some (.d (.int (a.2 : Int))), some (.d (.int a.1.1)), some (.d (.int a.1.2)), none], [some (.d (rgs L)), some (.d (.int (mpS L s a))), some (.d (.int (a.2 : Int))), some (.d (.int a.1.1)), some (.d (.int a.1.2)), none], by simp [rg], ?_, some (.int (a.2 : Int)), some (.int a.1.1), some (.int a.1.2), rfl⟩
      simp [eb, c1, gI_true, mpS])
  simp [v_nr h]
  have hen : enuG [rgs L] = some ((L.zipIdx 0).map fun q : Rq => PyData.tuple [.int (q.2 : Int), rg q.1]) := by simp [rgs, enuG, enuD_map]
  simp [hen, e, mpL]
/-! ### forced depth -/
def pby (n d : Int) : Int := (min n d * (min n d - 1)).fdiv 2 + (n - min n d) * (min n d - 1)
theorem min2 (n d : Int) : (if d < n then d else n) = min n d := by
  by_cases h : d < n
  · rw [if_pos h, Int.min_eq_right (by omega)]
  · rw [if_neg h, Int.min_eq_left (by omega)]
theorem x_fdiv2 {a : Int} : gFdiv (.int a) (.int 2) = some (.int (a.fdiv 2)) := by
  unfold gFdiv gI
  have : okDiv a 2 = true := rfl
  simp only [this]
theorem Sm_small {a : Int} (h1 : -1000000 ≤ a) (h2 : a ≤ 1000000) : Sm a := Sm_of (by omega) (by omega)
theorem v_pby {n d : Int} (h1 : 0 ≤ n) (h2 : n ≤ 1000) (h3 : 0 ≤ d) (h4 : d ≤ 1000) : gm_pairs_by [.int n, .int d] = some (.int (pby n d)) := by
  unfold gm_pairs_by g_pairs_by fnD s_pairs_by
  have e1 : Sm (min n d) := Sm_small (by omega) (by omega)
  have e2 : Sm (min n d - 1) := Sm_small (by omega) (by omega)
  have e3 : Sm (n - min n d) := Sm_small (by omega) (by omega)
  have e0 : gMin2 (.int n) (.int d) = some (.int (min n d)) := by unfold gMin2; simp only [min2]
  simp [e0, e1, e2, e3, x_fdiv2, pby]
theorem v_nn2 {v lo hi : Int} (h1 : lo ≤ v) (h2 : v ≤ hi) : gm_need_number [.int v, .int lo, .int hi] = some .none := by
  unfold gm_need_number g_need_number fnD s_need_number
  have h1' : ¬ v < lo := by omega
  have h2' : ¬ hi < v := by omega
  simp [v_int, h1', h2']
theorem v_nn1 {v lo : Int} (h1 : lo ≤ v) : gm_need_number [.int v, .int lo, .none] = some .none := by
  unfold gm_need_number g_need_number fnD s_need_number
  have h1' : ¬ v < lo := by omega
  simp [v_int, h1']
/-- binary search, from lo to hi -/
noncomputable def s_fd : SS := sSq (sA 4 (e2 gFdiv (e2 gAdd (eV 2) (eV 3)) (ep (.int 2))))
  (sIf (eT (e2 gLtX (eAs gm_pairs_by (eAc (eV 0) (eAc (eV 4) eAn))) (eV 1))) (sA 2 (e2 gAdd (eV 4) (ep (.int 1)))) (sA 3 (eV 4)))
theorem wl_forced {n ps dd : Int} (hn : n ≤ 1000) (hD : dd ≤ n) (hD1 : ∀ d, dd ≤ d → d ≤ n → ps ≤ pby n d) : ∀ (k : Nat) (lo hi : Int) (o4 : Option D), 1 ≤ lo → lo ≤ hi → hi ≤ n → lo ≤ dd → (hi - lo).toNat < k →
    ∃ m r r' o, r ≤ dd ∧ whileN m (eT (e2 gLtX (eV 2) (eV 3))) s_fd [some (.d (.int n)), some (.d (.int ps)), some (.d (.int lo)), some (.d (.int hi)), Od o4] = some (.nx, [some (.d (.int n)), some (.d (.int ps)), some (.d (.int r)), some (.d (.int r')), Od o])
  | 0, lo, hi, o4, _, _, _, _, h => by omega
  | k + 1, lo, hi, o4, h1, h2, h3, h4, h5 => by
    by_cases h : lo < hi
    · have q1 : (lo + hi).fdiv 2 = (lo + hi) / 2 := Int.fdiv_eq_ediv_of_nonneg _ (by omega)
      have q2 : lo ≤ (lo + hi) / 2 := by omega
      have q3 : (lo + hi) / 2 < hi := by omega
      have hp := v_pby (n := n) (d := (lo + hi) / 2) (by omega) hn (by omega) (by omega)
      by_cases hc : pby n ((lo + hi) / 2) < ps
      · have hd : (lo + hi) / 2 + 1 ≤ dd := by
          by_cases hq : dd ≤ (lo + hi) / 2
          · have := hD1 _ hq (by omega)
            omega
          · omega
        obtain ⟨m, r, r', o, e1, e2⟩ := wl_forced hn hD hD1 k ((lo + hi) / 2 + 1) hi (some (.int ((lo + hi) / 2))) (by omega) (by omega) h3 hd (by omega)
        refine ⟨m + 1, r, r', o, e1, ?_⟩
        rw [wh_1]
        unfold s_fd at e2 ⊢
        simp at e2
        simp [h, x_fdiv2, q1, hp, hc, e2]
      · obtain ⟨m, r, r', o, e1, e2⟩ := wl_forced hn hD hD1 k lo ((lo + hi) / 2) (some (.int ((lo + hi) / 2))) h1 q2 (by omega) h4 (by omega)
        refine ⟨m + 1, r, r', o, e1, ?_⟩
        rw [wh_1]
        unfold s_fd at e2 ⊢
        simp at e2
        simp [h, x_fdiv2, q1, hp, hc, e2]
    · exact ⟨1, lo, hi, o4, h4, by rw [wh_1]; simp [h]⟩
theorem v_forced {n ps dd : Int} (h0 : 1 ≤ n) (hn : n ≤ 1000) (h1 : 0 ≤ ps) (h2 : ps ≤ (n * (n - 1)).fdiv 2) (h3 : 1 ≤ dd) (hD : dd ≤ n) (hD1 : ∀ d, dd ≤ d → d ≤ n → ps ≤ pby n d) : ∃ r, r ≤ dd ∧ gm_forced_depth [.int n, .int ps] = some (.int r) := by
  obtain ⟨m, r, r', o, e1, e2⟩ := wl_forced hn hD hD1 ((n - 1).toNat + 1) 1 n none (by omega) h0 (by omega) h3 (by omega)
  have a1 := v_nn2 (v := n) (lo := 1) (hi := 1000000000000) h0 (by omega)
  have a2 := v_nn2 h1 h2
  have a3 : Sm n := Sm_small (by omega) (by omega)
  have a4 : Sm (n - 1) := Sm_small (by omega) (by omega)
  refine ⟨r, e1, ?_⟩
  unfold gm_forced_depth g_forced_depth fnD s_forced_depth
  have e3 := sWh_of m e2
  unfold s_fd at e3
  simp at e3
  simp [a1, a3, a4, x_fdiv2, a2, e3]
theorem v_hm {L : List (Int × Int)} (h : Rgs L) {p q : Int} (h1 : 1 ≤ q) (h2 : q ≤ p) : gm_have_meetings [rgs L, .int p, .int q] = some (.bool (decide (rmL L (q - 1) < p))) := by
  unfold gm_have_meetings g_have_meetings fnD s_have_meetings
  have a1 := v_nn1 (v := p) (lo := 1) (by omega)
  have a2 := v_nn1 h1
  have h3 : ¬ p < q := by omega
  simp [v_nr h, a1, a2, h3, v_roomed h.len]
end CS
set_option Elab.async false
set_option linter.all false
set_option maxRecDepth 100000
set_option maxHeartbeats 4000000
set_option autoImplicit false
namespace CS
open PySem PySem.Spec PyProof.Rows L2
/-! ### sets of places -/
def rgN (a : Nat) : Nat → List Nat
  | 0 => []
  | n + 1 => a :: rgN (a + 1) n
def stN (s : List Nat) : Nat := match s.getLast? with
  | none => 0
  | some l => l + 1
def lev (n : Nat) : Nat → List (List Nat)
  | 0 => [[]]
  | k + 1 => (lev n k).flatMap fun s => (rgN (stN s) (n - stN s)).map fun i => s ++ [i]
def asF (n : Nat) : Nat → List (List Nat)
  | 0 => [[]]
  | k + 1 => asF n k ++ lev n (k + 1)
def lt (s : List Nat) : D := .list (s.map nt)
theorem v_allsets : ∀ n : Nat, n ≤ 8 → gm_all_sets [.int (n : Int)] = some (.list ((asF n n).map lt))
  | 0, _ => by kernel_rfl
  | 1, _ => by kernel_rfl
  | 2, _ => by kernel_rfl
  | 3, _ => by kernel_rfl
  | 4, _ => by kernel_rfl
  | 5, _ => by kernel_rfl
  | 6, _ => by kernel_rfl
  | 7, _ => by kernel_rfl
  | 8, _ => by kernel_rfl
def prs (n : Nat) : List (List Nat) := (List.range n).flatMap fun i => (rgN (i + 1) (n - (i + 1))).map fun j => [i, j]
theorem as_len : ∀ n < 9, (asF n n).length ≤ 256 := by decide +kernel
theorem as_inc : ∀ n < 9, ∀ s ∈ asF n n, s.Pairwise (· < ·) ∧ ∀ i ∈ s, i < n := by decide +kernel
theorem as_ord : ∀ n < 9, (asF n n).Pairwise fun s t => s.length ≤ t.length := by decide +kernel
theorem as_cut : ∀ n < 9, asF n n = (asF n n).filter (fun s => decide (s.length ≤ 1)) ++ (prs n ++ (asF n n).filter fun s => decide (3 ≤ s.length)) := by decide +kernel
theorem rgN_mem : ∀ (n a i : Nat), i ∈ rgN a n ↔ a ≤ i ∧ i < a + n
  | 0, a, i => by simp [rgN]; try omega
  | n + 1, a, i => by
    rw [rgN, List.mem_cons, rgN_mem n (a + 1) i]
    omega
theorem lev_mem (n : Nat) : ∀ (k : Nat) (s : List Nat), s.length = k → s.Pairwise (· < ·) → (∀ i ∈ s, i < n) → s ∈ lev n k
  | 0, s, h, _, _ => by
    rw [List.length_eq_zero_iff.mp h]
    simp [lev]
  | k + 1, s, h, hp, hn => by
    rcases List.eq_nil_or_concat s with rfl | ⟨t, l, e⟩
    · simp at h
    · rw [List.concat_eq_append] at e
      subst e
      have ht : t.length = k := by simp at h; exact h
      rw [List.pairwise_append] at hp
      have := lev_mem n k t ht hp.1 fun i hi => hn i (List.mem_append_left _ hi)
      unfold lev
      refine List.mem_flatMap.mpr ⟨t, this, List.mem_map.mpr ⟨l, ?_, rfl⟩⟩
      rw [rgN_mem]
      have hl : l < n := hn l (by simp)
      have hst : stN t ≤ l := by
        unfold stN
        split
        · omega
        · rename_i m hm
          exact hp.2.2 m (List.mem_of_getLast? hm) l (by simp)
      omega
theorem asF_lev (n : Nat) : ∀ (k j : Nat), j ≤ k → ∀ s ∈ lev n j, s ∈ asF n k
  | 0, 0, _, s, h => h
  | k + 1, j, hj, s, h => by
    unfold asF
    by_cases e : j = k + 1
    · subst e
      exact List.mem_append_right _ h
    · exact List.mem_append_left _ (asF_lev n k j (by omega) s h)
theorem as_full (n : Nat) (f : Nat → Bool) : (List.range n).filter f ∈ asF n n := by
  have hl : ((List.range n).filter f).length ≤ n := by
    have := List.length_filter_le f (List.range n)
    rwa [List.length_range] at this
  refine asF_lev n n _ hl _ (lev_mem n _ _ rfl (List.pairwise_lt_range.filter f) fun i hi => ?_)
  exact List.mem_range.mp (List.mem_filter.mp hi).1
end CS
set_option Elab.async false
set_option linter.all false
set_option maxRecDepth 100000
set_option maxHeartbeats 4000000
set_option autoImplicit false
namespace CS
open PySem PySem.Spec PyProof.Rows L2
def guests (L : List (Int × Int)) : D := .list (L.map guest)
/-- a list of ranges as parties -/
structure Pts (L : List (Int × Int)) : Prop extends Rgs L where
  l8 : L.length ≤ 8
  sm : ∀ p ∈ L, Smp p
def mtB (o : Option (Int × Int)) : Bool := match o with
  | none => true
  | some q => decide (q.1 ≤ q.2)
theorem bnd_mem : ∀ (ps : List (Int × Int)) (o : Option (Int × Int)) (q : Int × Int), ps.foldl (fun o p => match o with
      | none => some p
      | some q => some (max q.1 p.1, min q.2 p.2)) o = some q → (∀ p ∈ ps, p.1 ≤ q.1 ∧ q.2 ≤ p.2) ∧ (∀ r, o = some r → r.1 ≤ q.1 ∧ q.2 ≤ r.2) ∧ ((∃ p ∈ ps, p.1 = q.1) ∨ ∃ r, o = some r ∧ r.1 = q.1) ∧ ((∃ p ∈ ps, p.2 = q.2) ∨ ∃ r, o = some r ∧ r.2 = q.2)
  | [], o, q, h => by
    subst h
    exact ⟨fun _ h => (by cases h), fun r h => (by cases h; exact ⟨Int.le_refl _, Int.le_refl _⟩), .inr ⟨q, rfl, rfl⟩, .inr ⟨q, rfl, rfl⟩⟩
  | p :: ps, o, q, h => by
    rw [List.foldl_cons] at h
    obtain ⟨h1, h2, h3, h4⟩ := bnd_mem ps _ q h
    cases o with
    | none =>
      have hp := h2 p rfl
      refine ⟨fun x hx => ?_, fun _ h => (by cases h), .inl ?_, .inl ?_⟩
      · rcases List.mem_cons.mp hx with rfl | hx
        · exact hp
        · exact h1 x hx
      · rcases h3 with ⟨x, hx, e⟩ | ⟨r, e1, e⟩
        · exact ⟨x, List.mem_cons_of_mem _ hx, e⟩
        · cases e1; exact ⟨p, List.mem_cons_self, e⟩
      · rcases h4 with ⟨x, hx, e⟩ | ⟨r, e1, e⟩
        · exact ⟨x, List.mem_cons_of_mem _ hx, e⟩
        · cases e1; exact ⟨p, List.mem_cons_self, e⟩
    | some r =>
      have hp := h2 _ rfl
      simp only at hp
      refine ⟨fun x hx => ?_, fun r' h => (by cases h; exact ⟨by omega, by omega⟩), ?_, ?_⟩
      · rcases List.mem_cons.mp hx with rfl | hx
        · exact ⟨by omega, by omega⟩
        · exact h1 x hx
      · rcases h3 with ⟨x, hx, e⟩ | ⟨r', e1, e⟩
        · exact .inl ⟨x, List.mem_cons_of_mem _ hx, e⟩
        · cases e1
          simp only at e
          by_cases hq : r.1 ≤ p.1
          · exact .inl ⟨p, List.mem_cons_self, by omega⟩
          · exact .inr ⟨r, rfl, by omega⟩
      · rcases h4 with ⟨x, hx, e⟩ | ⟨r', e1, e⟩
        · exact .inl ⟨x, List.mem_cons_of_mem _ hx, e⟩
        · cases e1
          simp only at e
          by_cases hq : p.2 ≤ r.2
          · exact .inl ⟨p, List.mem_cons_self, by omega⟩
          · exact .inr ⟨r, rfl, by omega⟩
theorem bnd_some {ps : List (Int × Int)} {q : Int × Int} (h : bnd ps = some q) : (∀ p ∈ ps, p.1 ≤ q.1 ∧ q.2 ≤ p.2) ∧ (∃ p ∈ ps, p.1 = q.1) ∧ ∃ p ∈ ps, p.2 = q.2 := by
  obtain ⟨h1, _, h3, h4⟩ := bnd_mem ps none q h
  refine ⟨h1, h3.elim id fun ⟨r, e, _⟩ => (by cases e), h4.elim id fun ⟨r, e, _⟩ => (by cases e)⟩
theorem bnd_ne : ∀ (ps : List (Int × Int)) (r : Int × Int), ∃ q, ps.foldl (fun o p => match o with
      | none => some p
      | some q => some (max q.1 p.1, min q.2 p.2)) (some r) = some q
  | [], r => ⟨r, rfl⟩
  | p :: ps, r => bnd_ne ps _
theorem bnd_cons (p : Int × Int) (ps : List (Int × Int)) : ∃ q, bnd (p :: ps) = some q := bnd_ne ps p
theorem v_mtB {o : Option (Int × Int)} (h : ∀ q, o = some q → Smp q) : gm_meets [kn, .list (bdD o)] = some (.bool (mtB o)) := by
  cases o with
  | none => exact v_meets0
  | some q => exact v_meets (h q rfl).1 (h q rfl).2
theorem pick_sub {L : List (Int × Int)} {is : List Nat} {p : Int × Int} (h : p ∈ pick L is) : p ∈ L := by
  obtain ⟨i, _, hi⟩ := List.mem_filterMap.mp h
  exact List.mem_of_getElem? hi
theorem bnd_sm {L : List (Int × Int)} {is : List Nat} (hs : ∀ p ∈ L, Smp p) : ∀ q, bnd (pick L is) = some q → Smp q := fun q h => by
  obtain ⟨_, ⟨a, ha, e1⟩, b, hb, e2⟩ := bnd_some h
  exact ⟨e1 ▸ (hs a (pick_sub ha)).1, e2 ▸ (hs b (pick_sub hb)).2⟩
/-- one within another -/
def sub (one s : List Nat) : Bool := one.all fun i => s.contains i
def inAny (found : List (List Nat)) (s : List Nat) : Bool := found.any fun one => sub one s
def sbS (L : List (Int × Int)) (found : List (List Nat)) (s : List Nat) : List (List Nat) := if !inAny found s && !mtB (bnd (pick L s)) then found ++ [s] else found
def sb (L : List (Int × Int)) : List (List Nat) := (asF L.length L.length).foldl (sbS L) []
theorem depth_nt : ∀ f : List Nat, PyData.depthAll (f.map nt) = 0
  | [] => by simp [PyData.depthAll]
  | x :: xs => by
    show PyData.depthAll (.int (x : Int) :: xs.map nt) = 0
    rw [PyData.depthAll, depth_nt xs]
    simp [PyData.depth]
theorem shp_lt (f : List Nat) : shp (lt f) = true := by
  unfold shp SeqAt.shaped lt
  rw [Bool.and_eq_true]
  refine ⟨lay_all nt (fun _ => rfl) f, decide_eq_true ?_⟩
  rw [PyData.depth, depth_nt]
  omega
theorem gIn_nt (i : Nat) (s : List Nat) : gIn (nt i) (lt s) = some (.bool (s.contains i)) := by
  have h1 : shp (nt i) = true := by kernel_rfl
  have h2 := shp_lt s
  unfold lt at h2 ⊢
  unfold gIn
  simp only [h1, h2, Bool.and_self]
  congr 2
  induction s with
  | nil => rfl
  | cons a s ih =>
    rw [List.map_cons, List.any_cons, ih (shp_lt s), List.contains_cons]
    congr 1
    show (((a : Int) == (i : Int)) : Bool) = (i == a)
    by_cases h : a = i
    · subst h; simp
    · have h1 : (i == a) = false := beq_eq_false_iff_ne.mpr fun e => h e.symm
      have h2 : ((a : Int) == (i : Int)) = false := beq_eq_false_iff_ne.mpr (by omega)
      rw [h1, h2]
theorem sbS_len (L : List (Int × Int)) : ∀ (os f : List (List Nat)), (os.foldl (sbS L) f).length ≤ f.length + os.length
  | [], f => by simp
  | o :: os, f => by
    have := sbS_len L os (sbS L f o)
    have h2 : (sbS L f o).length ≤ f.length + 1 := by
      unfold sbS
      split <;> simp
    simp only [List.foldl_cons, List.length_cons]
    omega
theorem sbS_sub (L : List (Int × Int)) {P : List Nat → Prop} : ∀ (os f : List (List Nat)), (∀ s ∈ os, P s) → (∀ s ∈ f, P s) → ∀ s ∈ os.foldl (sbS L) f, P s
  | [], f, _, h => h
  | o :: os, f, h1, h2 => sbS_sub L os (sbS L f o) (fun q hq => h1 q (List.mem_cons_of_mem _ hq)) fun q hq => by
    unfold sbS at hq
    split at hq
    · rcases List.mem_append.mp hq with h | h
      · exact h2 q h
      · rw [List.mem_singleton.mp h]; exact h1 o List.mem_cons_self
    · exact h2 q hq
def rtOf : Option (Fl × En) → Option D
  | some (.rt (.d z), _) => some z
  | some (.nx, _) => some .none
  | _ => none
theorem rt_1 {z : D} {ρ : En} : rtOf (some (.rt (.d z), ρ)) = some z := rfl
theorem rt_2 {ρ : En} : rtOf (some (.nx, ρ)) = some .none := rfl
theorem fnD_eq {na nl : Nat} {s : SS} {xs : List D} (h : Nat.beq xs.length na = true) : fnD na nl s xs = rtOf (s (argE xs ++ List.replicate nl none)) := by
  unfold fnD
  rw [h]
  simp only
  unfold rtOf
  split <;> simp_all
theorem as_l8 : ∀ n < 9, ∀ s ∈ asF n n, s.length ≤ 8 := by decide +kernel
noncomputable def s_sb : SS := sSq (sA 6 (e1 gAny (eL (eLcM [7] 3 (bd 7) (ep true) (e1 gAll (eL (eLc [8] (eIs (eV 7)) (bd 8) (ep true) (e2 gIn (eV 8) (eV 5)))))))))
      (sIf (eAnd (eNot (eT (eV 6))) (eNot (eT (eAs gm_meets (eAc (eV 0) (eAc (eAs gm_bounds_of (eAc (eV 4) (eAc (eV 2) (eAc (eV 5) eAn)))) eAn)))))) (sE (eGrow 3 (eb (eV 5) fun x => ep [x]))) sNx)
theorem v_setsL {L : List (Int × Int)} (h : Pts L) : ∃ o5 o6, forL (bd 5) s_sb ((asF L.length L.length).map lt) [some (.d kn), some (.d (.int 2)), some (.d (guests L)), some (.m []), some (.d (.list [.int 0, .int 1])), none, none, none, none] = some (.nx, [some (.d kn), some (.d (.int 2)), some (.d (guests L)), some (.m ((sb L).map lt)), some (.d (.list [.int 0, .int 1])), Od o5, Od o6, none, none]) := by
  have hn : L.length < 9 := by have := h.l8; omega
  have ha := v_allsets L.length h.l8
  have hr : rgL1 (.int 2) = some [.int 0, .int 1] := by kernel_rfl
  have hw : ∀ (f : List (List Nat)) (s : List Nat) (o6 : Option D), f.length ≤ 1000 → s.length ≤ 1000 → (∀ one ∈ f, one.length ≤ 1000) →
      eLcM [7] 3 (bd 7) (ep true) (e1 gAll (eL (eLc [8] (eIs (eV 7)) (bd 8) (ep true) (e2 gIn (eV 8) (eV 5))))) [some (.d kn), some (.d (.int 2)), some (.d (guests L)), some (.m (f.map lt)), some (.d (.list [.int 0, .int 1])), some (.d (lt s)), Od o6, none, none] =
        some (f.map (fun one => .bool (sub one s)), [some (.d kn), some (.d (.int 2)), some (.d (guests L)), some (.m (f.map lt)), some (.d (.list [.int 0, .int 1])), some (.d (lt s)), Od o6, none, none]) := fun f s o6 hf hs ho =>
    lcM_map lt _ f rfl rfl (by omega) fun one hone => ⟨[some (.d kn), some (.d (.int 2)), some (.d (guests L)), some (.m (f.map lt)), some (.d (.list [.int 0, .int 1])), some (.d (lt s)), Od o6, some (.d (lt one)), none], by simp [wipeE], rfl, fun _ => by
      have c := lc_map nt (fun i => PyData.bool (s.contains i)) one (vs := [8]) (src := eIs (eV 7)) (b := bd 8) (el := e2 gIn (eV 8) (eV 5)) (ρ := [some (.d kn), some (.d (.int 2)), some (.d (guests L)), some (.m (f.map lt)), some (.d (.list [.int 0, .int 1])), some (.d (lt s)), Od o6, some (.d (lt one)), none]) (ρ1 := [some (.d kn), some (.d (.int 2)), some (.d (guests L)), some (.m (f.map lt)), some (.d (.list [.int 0, .int 1])), some (.d (lt s)), Od o6, some (.d (lt one)), none]) (by simp [lt]) rfl (by have := ho one hone; omega) fun i hi => ⟨[some (.d kn), some (.d (.int 2)), some (.d (guests L)), some (.m (f.map lt)), some (.d (.list [.int 0, .int 1])), some (.d (lt s)), Od o6, some (.d (lt one)), some (.d (nt i))], by simp [wipeE], rfl, fun _ => by simp [gIn_nt], rfl⟩
      rw [x_e1, x_eL, c]
      simp only
      rw [gAll_map]
      rfl, rfl⟩
  have hbb : ∀ a : List Nat, (∀ i ∈ a, i < L.length) → a.length ≤ 1000 → gm_bounds_of [.list [.int 0, .int 1], guests L, lt a] = some (.list (bdD (bnd (pick L a)))) := fun a ha2 ha1 => v_bnd (.list [.int 0, .int 1]) rfl L a ha2 ha1 h.sm
  have hmm : ∀ a : List Nat, gm_meets [kn, .list (bdD (bnd (pick L a)))] = some (.bool (mtB (bnd (pick L a)))) := fun a => v_mtB (bnd_sm (is := a) h.sm)
  have hgl : gLen (guests L) = some (.int (L.length : Int)) := by unfold guests; simp
  generalize kn = kk at *
  generalize guests L = gs at *
  obtain ⟨ρ', e, o5, o6, rfl⟩ := for_inv lt (b := bd 5) (s := s_sb)
    (fun pre ρ => ∃ o5 o6, ρ = [some (.d kk), some (.d (.int 2)), some (.d gs), some (.m ((pre.foldl (sbS L) []).map lt)), some (.d (.list [.int 0, .int 1])), Od o5, Od o6, none, none]) (asF L.length L.length)
    (ρ := [some (.d kk), some (.d (.int 2)), some (.d gs), some (.m []), some (.d (.list [.int 0, .int 1])), none, none, none, none]) ⟨none, none, rfl⟩ (fun pre a post ρ hz ⟨o5, o6, hρ⟩ => by
      subst hρ
      have e : (pre ++ [a]).foldl (sbS L) [] = sbS L (pre.foldl (sbS L) []) a := by rw [List.foldl_append]; rfl
      have hin : ∀ s ∈ asF L.length L.length, s.length ≤ 1000 ∧ ∀ i ∈ s, i < L.length := fun s hs => by
        have := as_inc L.length hn s hs
        refine ⟨?_, this.2⟩
        have h2 : s.length ≤ 8 := as_l8 L.length hn s hs
        exact Nat.le_trans h2 (by decide)
      have hpre : ∀ s ∈ pre.foldl (sbS L) [], s.length ≤ 1000 := sbS_sub L pre [] (fun s hs => (hin s (by rw [hz]; exact List.mem_append_left _ hs)).1) fun _ h => by cases h
      have hpl : (pre.foldl (sbS L) []).length ≤ 256 := by
        have h1 := sbS_len L pre []
        have h2 := as_len L.length hn
        rw [hz, List.length_append] at h2
        simp at h1
        omega
      obtain ⟨ha1, ha2⟩ := hin a (by rw [hz]; simp)
      rw [e]
      generalize pre.foldl (sbS L) [] = f at hpre hpl
      have hb' := hbb a ha2 ha1
      have hm := hmm a
      have hf : f.length + 1 ≤ 16777216 := by omega
      have w := hw f a o6 (by omega) ha1 hpre
      have hany := gAny_map (fun one => sub one a) f
      refine ⟨[some (.d kk), some (.d (.int 2)), some (.d gs), some (.m (f.map lt)), some (.d (.list [.int 0, .int 1])), some (.d (lt a)), Od o6, none, none], [some (.d kk), some (.d (.int 2)), some (.d gs), some (.m ((sbS L f a).map lt)), some (.d (.list [.int 0, .int 1])), some (.d (lt a)), some (.d (.bool (inAny f a))), none, none], by simp, ?_, some (lt a), some (.bool (inAny f a)), rfl⟩
      unfold s_sb
      rw [x_sSq, x_sA, x_e1, x_eL, w]
      simp only [hany]
      unfold inAny sbS inAny
      cases h1 : (f.any fun one => sub one a) with
      | true => simp
      | false =>
        cases h2 : mtB (bnd (pick L a)) with
        | true => simp [hb', hm, h2]
        | false => simp [hb', hm, h2, eb, hf])
  exact ⟨o5, o6, e⟩
theorem v_sets {L : List (Int × Int)} (h : Pts L) : gm_sets_by [kn, .int 2, guests L] = some (.list ((sb L).map lt)) := by
  obtain ⟨o5, o6, e⟩ := v_setsL h
  have ha := v_allsets L.length h.l8
  have hr : rgL1 (.int 2) = some [.int 0, .int 1] := by kernel_rfl
  have hgl : gLen (guests L) = some (.int (L.length : Int)) := by unfold guests; simp
  generalize kn = kk at *
  generalize guests L = gs at *
  unfold s_sb at e
  show fnD 3 6 s_sets_by _ = _
  rw [fnD_eq rfl]
  unfold s_sets_by
  simp -implicitDefEqProofs [hr, hgl, ha, e, rt_1]
end CS
set_option Elab.async false
set_option linter.all false
set_option maxRecDepth 100000
set_option maxHeartbeats 4000000
set_option autoImplicit false
namespace CS
open PySem PySem.Spec PyProof.Rows L2
theorem guests_len (L : List (Int × Int)) : gLen (guests L) = some (.int (L.length : Int)) := by unfold guests; simp
theorem v_clash {L : List (Int × Int)} (h : Pts L) : gm_clashing_sets [bk, guests L] = some (.list ((sb L).map lt)) := by
  have e := v_sets h
  have e0 := v_knots
  have e1 := bk_len
  generalize guests L = gs at *
  generalize bk = bb at *
  generalize kn = kk at *
  show fnD 2 0 s_clashing_sets _ = _
  rw [fnD_eq rfl]
  unfold s_clashing_sets
  simp -implicitDefEqProofs [e0, e1, e, rt_1]
/-- the sets without a clash, those of the greatest number -/
def goodS (L : List (Int × Int)) : List (List Nat) := (asF L.length L.length).filter fun s => !inAny (sb L) s
def lastN (ss : List (List Nat)) : Nat := match ss.getLast? with
  | none => 0
  | some s => s.length
def ms (L : List (Int × Int)) : List (List Nat) := (goodS L).filter fun s => s.length == lastN (goodS L)
theorem sb_in {L : List (Int × Int)} (h : L.length < 9) : (∀ s ∈ sb L, s ∈ asF L.length L.length) := sbS_sub L _ [] (fun s hs => hs) fun _ h => by cases h
theorem sb_len {L : List (Int × Int)} (h : L.length < 9) : (sb L).length ≤ 256 := by
  have h1 := sbS_len L (asF L.length L.length) []
  have h2 := as_len L.length h
  unfold sb
  simp at h1
  omega
noncomputable def s_ms : SS := sIf (eNot (eT (e1 gAny (eL (eLc [5] (eIs (eV 2)) (bd 5) (ep true) (e1 gAll (eL (eLc [6] (eIs (eV 5)) (bd 6) (ep true) (e2 gIn (eV 6) (eV 4)))))))))) (sE (eGrow 3 (eb (eV 4) fun x => ep [x]))) sNx
theorem v_msL {L : List (Int × Int)} (h : Pts L) : ∃ o4, forL (bd 4) s_ms ((asF L.length L.length).map lt) [some (.d bk), some (.d (guests L)), some (.d (.list ((sb L).map lt))), some (.m []), none, none, none] =
    some (.nx, [some (.d bk), some (.d (guests L)), some (.d (.list ((sb L).map lt))), some (.m ((goodS L).map lt)), Od o4, none, none]) := by
  have hn : L.length < 9 := by have := h.l8; omega
  have hsb : ∀ s ∈ sb L, s.length ≤ 1000 := fun s hs => Nat.le_trans (as_l8 L.length hn s (sb_in hn s hs)) (by decide)
  have hsl := sb_len hn
  generalize hG : guests L = gs
  generalize hB : bk = bb
  obtain ⟨ρ', e, o4, rfl⟩ := for_inv lt (b := bd 4) (s := s_ms)
    (fun pre ρ => ∃ o4, ρ = [some (.d bb), some (.d gs), some (.d (.list ((sb L).map lt))), some (.m ((pre.filter fun s => !inAny (sb L) s).map lt)), Od o4, none, none]) (asF L.length L.length)
    (ρ := [some (.d bb), some (.d gs), some (.d (.list ((sb L).map lt))), some (.m []), none, none, none]) ⟨none, rfl⟩ (fun pre a post ρ hz ⟨o4, hρ⟩ => by
      subst hρ
      have hpl : (pre.filter fun s => !inAny (sb L) s).length + 1 ≤ 16777216 := by
        have h1 := List.length_filter_le (fun s => !inAny (sb L) s) pre
        have h2 := as_len L.length hn
        rw [hz, List.length_append] at h2
        omega
      have w : eLc [5] (eIs (eV 2)) (bd 5) (ep true) (e1 gAll (eL (eLc [6] (eIs (eV 5)) (bd 6) (ep true) (e2 gIn (eV 6) (eV 4))))) [some (.d bb), some (.d gs), some (.d (.list ((sb L).map lt))), some (.m ((pre.filter fun s => !inAny (sb L) s).map lt)), some (.d (lt a)), none, none] =
          some ((sb L).map (fun one => .bool (sub one a)), [some (.d bb), some (.d gs), some (.d (.list ((sb L).map lt))), some (.m ((pre.filter fun s => !inAny (sb L) s).map lt)), some (.d (lt a)), none, none]) :=
        lc_map lt _ (sb L) (by simp -implicitDefEqProofs) rfl (by omega) fun one hone => ⟨[some (.d bb), some (.d gs), some (.d (.list ((sb L).map lt))), some (.m ((pre.filter fun s => !inAny (sb L) s).map lt)), some (.d (lt a)), some (.d (lt one)), none], by simp -implicitDefEqProofs [wipeE], rfl, fun _ => by
          have c := lc_map nt (fun i => PyData.bool (a.contains i)) one (vs := [6]) (src := eIs (eV 5)) (b := bd 6) (el := e2 gIn (eV 6) (eV 4)) (ρ := [some (.d bb), some (.d gs), some (.d (.list ((sb L).map lt))), some (.m ((pre.filter fun s => !inAny (sb L) s).map lt)), some (.d (lt a)), some (.d (lt one)), none]) (ρ1 := [some (.d bb), some (.d gs), some (.d (.list ((sb L).map lt))), some (.m ((pre.filter fun s => !inAny (sb L) s).map lt)), some (.d (lt a)), some (.d (lt one)), none]) (by simp -implicitDefEqProofs [lt]) rfl (by have := hsb one hone; omega) fun i hi => ⟨[some (.d bb), some (.d gs), some (.d (.list ((sb L).map lt))), some (.m ((pre.filter fun s => !inAny (sb L) s).map lt)), some (.d (lt a)), some (.d (lt one)), some (.d (nt i))], by simp -implicitDefEqProofs [wipeE], rfl, fun _ => by simp -implicitDefEqProofs [gIn_nt], rfl⟩
          rw [x_e1, x_eL, c]
          simp only
          rw [gAll_map]
          rfl, rfl⟩
      have hany := gAny_map (fun one => sub one a) (sb L)
      refine ⟨[some (.d bb), some (.d gs), some (.d (.list ((sb L).map lt))), some (.m ((pre.filter fun s => !inAny (sb L) s).map lt)), some (.d (lt a)), none, none], [some (.d bb), some (.d gs), some (.d (.list ((sb L).map lt))), some (.m (((pre ++ [a]).filter fun s => !inAny (sb L) s).map lt)), some (.d (lt a)), none, none], by simp -implicitDefEqProofs, ?_, some (lt a), rfl⟩
      unfold s_ms
      rw [x_sIf, x_eNot, x_eT, x_e1, x_eL, w]
      simp only [hany]
      rw [List.filter_append]
      unfold inAny at *
      cases h1 : ((sb L).any fun one => sub one a) with
      | true => simp -implicitDefEqProofs [h1]
      | false => simp -implicitDefEqProofs [h1, eb, hpl])
  exact ⟨o4, e⟩
theorem as_nil : ∀ n < 9, [] ∈ asF n n := by decide +kernel
theorem gEq_int (i j : Nat) : gEq (.int (i : Int)) (.int (j : Int)) = some (.bool (i == j)) := by
  have h1 : shp (.int (i : Int)) = true := by kernel_rfl
  have h2 : shp (.int (j : Int)) = true := by kernel_rfl
  unfold gEq
  simp only [h1, h2, Bool.and_self]
  congr 2
  show (((i : Int) == (j : Int)) : Bool) = (i == j)
  by_cases h : i = j
  · subst h; simp
  · have h1 : (i == j) = false := beq_eq_false_iff_ne.mpr h
    have h2 : ((i : Int) == (j : Int)) = false := beq_eq_false_iff_ne.mpr (by omega)
    rw [h1, h2]
theorem v_ms {L : List (Int × Int)} (h : Pts L) (hne : goodS L ≠ []) : gm_meeting_sets [bk, guests L] = some (.list ((ms L).map lt)) := by
  have hn : L.length < 9 := by have := h.l8; omega
  have e := v_clash h
  have ha := v_allsets L.length h.l8
  have hg := guests_len L
  obtain ⟨o4, ef⟩ := v_msL h
  have hgl : (goodS L).length ≤ 256 := by
    have h1 := List.length_filter_le (fun s => !inAny (sb L) s) (asF L.length L.length)
    have h2 := as_len L.length hn
    unfold goodS
    omega
  have hb : bd 4 (.none : D) [] = some [] := rfl
  generalize guests L = gs at *
  generalize bk = bb at *
  have c : eLcM [4] 3 (bd 4) (eT (e2 gEq (e1 gLen (eV 4)) (e1 gLen (e2L gIx 3 (e1 gNeg (ep (.int 1))))))) (eV 4) [some (.d bb), some (.d gs), some (.d (.list ((sb L).map lt))), some (.m ((goodS L).map lt)), Od o4, none, none] =
      some ((ms L).map lt, [some (.d bb), some (.d gs), some (.d (.list ((sb L).map lt))), some (.m ((goodS L).map lt)), Od o4, none, none]) :=
    lcM_val lt lt (fun s => s.length == lastN (goodS L)) (goodS L) rfl (by cases o4 <;> rfl) (by omega) fun s hs => ⟨[some (.d bb), some (.d gs), some (.d (.list ((sb L).map lt))), some (.m ((goodS L).map lt)), some (.d (lt s)), none, none], by simp -implicitDefEqProofs [wipeE], by
      have hl : atI ((goodS L).map lt) (-1) = some (lt ((goodS L).getLast hne)) := by rw [atI_neg1, List.getLast?_map, List.getLast?_eq_some_getLast hne]; rfl
      have hla : lastN (goodS L) = ((goodS L).getLast hne).length := by unfold lastN; rw [List.getLast?_eq_some_getLast hne]
      have hq := gEq_int s.length ((goodS L).getLast hne).length
      simp -implicitDefEqProofs [eb, hl, hla, lt, hq], fun _ => by simp -implicitDefEqProofs, rfl⟩
  show fnD 2 5 s_meeting_sets _ = _
  rw [fnD_eq rfl]
  unfold s_meeting_sets
  unfold s_ms at ef
  simp -implicitDefEqProofs [e, hg, ha, ef, c, rt_1]
end CS
set_option Elab.async false
set_option linter.all false
set_option maxRecDepth 100000
set_option maxHeartbeats 4000000
set_option autoImplicit false
namespace CS
open PySem PySem.Spec PyProof.Rows L2
theorem alike_nt : ∀ s t : List Nat, PySem.W.alikeAll (s.map nt) (t.map nt) = true
  | [], _ => by simp [PySem.W.alikeAll]
  | _ :: _, [] => by simp [PySem.W.alikeAll]
  | x :: xs, y :: ys => by
    show PySem.W.alikeAll (.int (x : Int) :: xs.map nt) (.int (y : Int) :: ys.map nt) = true
    rw [PySem.W.alikeAll, alike_nt xs ys]
    simp [PySem.W.alike]
def leL (a b : List Nat) : Bool := PySem.W.dataLe false id (lt a) (lt b)
theorem gSort_lt (f : List (List Nat)) (hl : f.length ≤ 16777216) : gSort (.list (f.map lt)) = some ((f.mergeSort leL).map lt) :=
  gSort_of (sortOk_of lt f (fun a b => alike_nt a b) (.inr fun a => rfl) (fun a => lay_all nt (fun _ => rfl) a) (fun a => by unfold lt; rw [PyData.depth, depth_nt]; omega)) (by rw [List.length_map]; exact hl) (srt_map lt leL (fun a b => rfl) f)
theorem leL_pair (i j i' j' : Nat) : leL [i, j] [i', j'] = !decide (i' < i ∨ (i' = i ∧ j' < j)) := by
  show (!PySem.W.dataLt (lt [i', j']) (lt [i, j])) = _
  have := PySem.W.dataLt_ii (i' : Int) (j' : Int) (i : Int) (j : Int)
  have e : PySem.W.dataLt (lt [i', j']) (lt [i, j]) = PySem.W.dataLt (.tuple [.int (i' : Int), .int (j' : Int)]) (.tuple [.int (i : Int), .int (j : Int)]) := rfl
  rw [e, this]
  congr 1
  rw [decide_eq_decide]
  omega
theorem pick_range (L : List (Int × Int)) : pick L (List.range L.length) = L := by
  unfold pick
  refine List.ext_getElem? fun j => ?_
  have key : ∀ (L : List (Int × Int)), (List.range L.length).filterMap (fun i => L[i]?) = L := by
    intro L
    induction L with
    | nil => rfl
    | cons p L ih =>
      rw [List.length_cons, List.range_succ_eq_map, List.filterMap_cons]
      simp only [List.getElem?_cons_zero]
      rw [List.filterMap_map]
      congr 1
  rw [key]
theorem rgl_n {n : Nat} (h : n ≤ 8) : rgL1 (.int (n : Int)) = some ((List.range n).map nt) := by
  have h : n < 9 := by omega
  match n, h with
  | 0, _ => kernel_rfl
  | 1, _ => kernel_rfl
  | 2, _ => kernel_rfl
  | 3, _ => kernel_rfl
  | 4, _ => kernel_rfl
  | 5, _ => kernel_rfl
  | 6, _ => kernel_rfl
  | 7, _ => kernel_rfl
  | 8, _ => kernel_rfl
theorem v_bndall {L : List (Int × Int)} (h : Pts L) : gm_bounds_of [bk, guests L, .list ((List.range L.length).map nt)] = some (.list (bdD (bnd L))) := by
  have := v_bnd bk bk_len L (List.range L.length) (fun i hi => List.mem_range.mp hi) (by rw [List.length_range]; have := h.l8; omega) h.sm
  rwa [pick_range] at this
theorem bnd_sm' {L : List (Int × Int)} (h : Pts L) : ∀ q, bnd L = some q → Smp q := by
  have := bnd_sm (L := L) (is := List.range L.length) h.sm
  rwa [pick_range] at this
theorem q_allmeet {bb gs rs kk bs : D} {n : Int} {is : List D} {b : Bool} (e0 : gm_need_book_and_parties [bb, gs] = some .none) (e1 : gm_knots_in [bb] = some kk) (e4 : gLen gs = some (.int n)) (e5 : rgL1 (.int n) = some is) (ef : gm_bounds_of [bb, gs, .list is] = some bs) (e3 : gm_meets [kk, bs] = some (.bool b)) : gm_all_meet [bb, gs] = some (.bool b) := by
  show fnD 2 0 s_all_meet _ = _
  rw [fnD_eq rfl]
  unfold s_all_meet
  simp -implicitDefEqProofs [e0, e1, ef, e3, e4, e5, rt_1]
theorem q_fout {bb gs x : D} {n m : Int} {xs : List D} (e0 : gm_need_book_and_parties [bb, gs] = some .none) (e1 : gm_meeting_sets [bb, gs] = some (.list (x :: xs))) (e4 : gLen gs = some (.int n)) (e5 : gLen x = some (.int m)) : gm_fewest_parties_out [bb, gs] = some (.int (n - m)) := by
  show fnD 2 0 s_fewest_parties_out _ = _
  rw [fnD_eq rfl]
  unfold s_fewest_parties_out
  simp -implicitDefEqProofs [e0, e1, e4, e5, rt_1]
theorem q_place {bb gs bs z : D} {n : Int} {is : List D} (e0 : gm_need_book_and_parties [bb, gs] = some .none) (e4 : gLen gs = some (.int n)) (e5 : rgL1 (.int n) = some is) (ef : gm_bounds_of [bb, gs, .list is] = some bs) (e3 : gm_some_point [bb, bs] = some z) : gm_meeting_place [bb, gs] = some z := by
  show fnD 2 0 s_meeting_place _ = _
  rw [fnD_eq rfl]
  unfold s_meeting_place
  simp -implicitDefEqProofs [e0, ef, e3, e4, e5, rt_1]
theorem q_comb {bb gs bs z : D} {n : Int} {is : List D} (e0 : gm_need_book_and_parties [bb, gs] = some .none) (e4 : gLen gs = some (.int n)) (e5 : rgL1 (.int n) = some is) (ef : gm_bounds_of [bb, gs, .list is] = some bs) (e3 : gm_tight [bb, bs] = some z) : gm_combined [bb, gs] = some z := by
  show fnD 2 0 s_combined _ = _
  rw [fnD_eq rfl]
  unfold s_combined
  simp -implicitDefEqProofs [e0, ef, e3, e4, e5, rt_1]
theorem v_allmeet {L : List (Int × Int)} (h : Pts L) : gm_all_meet [bk, guests L] = some (.bool (mtB (bnd L))) := by
  exact q_allmeet (rs := .none) (v_nbp L h.pos h.l8) v_knots (guests_len L) (rgl_n h.l8) (v_bndall h) (v_mtB (bnd_sm' h))
theorem v_pclash {L : List (Int × Int)} (h : Pts L) : gm_party_clashes [bk, guests L] = some (.list (((sb L).mergeSort leL).map lt)) := by
  have e0 : gm_need_book_and_parties [bk, guests L] = some .none := v_nbp L h.pos h.l8
  have e1 := v_clash h
  have e3 := gSort_lt (sb L) (by have := sb_len (L := L) (by have := h.l8; omega); omega)
  generalize guests L = gs at *
  generalize bk = bb at *
  show fnD 2 0 s_party_clashes _ = _
  rw [fnD_eq rfl]
  unfold s_party_clashes
  simp -implicitDefEqProofs [e0, e1, e3, rt_1]
theorem v_crowds {L : List (Int × Int)} (h : Pts L) (hne : goodS L ≠ []) : gm_crowds [bk, guests L] = some (.list (((ms L).mergeSort leL).map lt)) := by
  have e0 : gm_need_book_and_parties [bk, guests L] = some .none := v_nbp L h.pos h.l8
  have e1 := v_ms h hne
  have hl : (ms L).length ≤ 256 := by
    have h1 := List.length_filter_le (fun s => !inAny (sb L) s) (asF L.length L.length)
    have h2 := as_len L.length (by have := h.l8; omega)
    have h3 := List.length_filter_le (fun s => s.length == lastN (goodS L)) (goodS L)
    unfold ms
    unfold goodS at *
    omega
  have e3 := gSort_lt (ms L) (by omega)
  generalize guests L = gs at *
  generalize bk = bb at *
  show fnD 2 0 s_crowds _ = _
  rw [fnD_eq rfl]
  unfold s_crowds
  simp -implicitDefEqProofs [e0, e1, e3, rt_1]
theorem v_fout {L : List (Int × Int)} (h : Pts L) (hne : goodS L ≠ []) {s : List Nat} {r : List (List Nat)} (hm : ms L = s :: r) : gm_fewest_parties_out [bk, guests L] = some (.int (L.length - s.length)) := by
  have e1 := v_ms h hne
  rw [hm, List.map_cons] at e1
  exact q_fout (v_nbp L h.pos h.l8) e1 (guests_len L) (by unfold lt; simp)
theorem v_place {L : List (Int × Int)} (h : Pts L) {q : Int × Int} (hb : bnd L = some q) : gm_meeting_place [bk, guests L] = some (if q.1 ≤ q.2 then .tuple [fr q.1] else .none) := by
  have ef := v_bndall h
  rw [hb] at ef
  have hs := bnd_sm' h q hb
  exact q_place (v_nbp L h.pos h.l8) (guests_len L) (rgl_n h.l8) ef (v_sp hs.1 hs.2)
theorem v_comb {L : List (Int × Int)} (h : Pts L) {q : Int × Int} (hb : bnd L = some q) (hq : q.1 ≤ q.2) : gm_combined [bk, guests L] = some (.list [fr (0 - q.1), fr q.2]) := by
  have ef := v_bndall h
  rw [hb] at ef
  have hs := bnd_sm' h q hb
  exact q_comb (v_nbp L h.pos h.l8) (guests_len L) (rgl_n h.l8) ef (v_tight hs.1 hs.2 hq)
end CS
set_option Elab.async false
set_option linter.all false
set_option maxRecDepth 100000
set_option maxHeartbeats 4000000
set_option autoImplicit false
namespace CS
open PySem PySem.Spec PyProof.Rows L2
/-! ### the depth is the greatest number of ranges around a point -/
def cnt (L : List (Int × Int)) (x : Int) : Int := ((L.filter fun p => decide (p.1 ≤ x) && decide (x ≤ p.2)).length : Int)
def wt (e : Int × Int) : Int := 1 - 2 * e.2
def bal (P : List (Int × Int)) : Int := (P.map wt).sum
theorem bal_cons (e : Int × Int) (P : List (Int × Int)) : bal (e :: P) = wt e + bal P := by simp [bal]
theorem bal_app (P Q : List (Int × Int)) : bal (P ++ Q) = bal P + bal Q := by simp [bal]
theorem bal_perm {P Q : List (Int × Int)} (h : P.Perm Q) : bal P = bal Q := by
  induction h with
  | nil => rfl
  | cons x _ ih => rw [bal_cons, bal_cons, ih]
  | swap x y l => rw [bal_cons, bal_cons, bal_cons, bal_cons]; omega
  | trans _ _ h1 h2 => exact h1.trans h2
theorem sw_1 : ∀ (P : List (Int × Int)) (s : Int × Int), (P.foldl swS s).1 = s.1 + bal P
  | [], s => by simp [bal]
  | e :: P, s => by
    rw [List.foldl_cons, sw_1 P, bal_cons]
    unfold swS wt
    split <;> simp only <;> omega
theorem sw_2 : ∀ (P : List (Int × Int)) (s : Int × Int), s.1 ≤ s.2 → (∀ e ∈ P, e.2 = 0 ∨ e.2 = 1) →
    s.2 ≤ (P.foldl swS s).2 ∧ (∀ Q R, P = Q ++ R → s.1 + bal Q ≤ (P.foldl swS s).2) ∧
      ((P.foldl swS s).2 = s.2 ∨ ∃ Q e R, P = Q ++ e :: R ∧ e.2 = 0 ∧ (P.foldl swS s).2 = s.1 + bal (Q ++ [e]))
  | [], s, hs, _ => by
    refine ⟨Int.le_refl _, fun Q R h => ?_, .inl rfl⟩
    have : Q = [] := (List.append_eq_nil_iff.mp h.symm).1
    subst this
    simpa [bal] using hs
  | e :: P, s, hs, he => by
    have h0 := he e List.mem_cons_self
    have hsw : (swS s e).1 = s.1 + wt e := by unfold swS wt; split <;> simp only <;> omega
    have hsl : (swS s e).1 ≤ (swS s e).2 := by unfold swS; split <;> simp only <;> omega
    have hs2 : s.2 ≤ (swS s e).2 := by unfold swS; split <;> simp only <;> omega
    obtain ⟨h1, h2, h3⟩ := sw_2 P (swS s e) hsl fun x hx => he x (List.mem_cons_of_mem _ hx)
    rw [List.foldl_cons]
    refine ⟨by omega, fun Q R h => ?_, ?_⟩
    · cases Q with
      | nil => simp only [bal, List.map_nil, List.sum_nil]; omega
      | cons x Q =>
        cases h
        have := h2 Q R rfl
        rw [bal_cons]
        omega
    · rcases h3 with h3 | ⟨Q, x, R, h4, h5, h6⟩
      · by_cases hc : s.2 < s.1 + 1 - 2 * e.2
        · have hz : e.2 = 0 := by omega
          refine .inr ⟨[], e, P, rfl, hz, ?_⟩
          rw [h3]
          have : (swS s e).2 = s.1 + 1 - 2 * e.2 := by unfold swS; rw [if_pos hc]
          rw [this]
          simp only [List.nil_append, bal, List.map_cons, List.map_nil, List.sum_cons, List.sum_nil, wt]
          omega
        · refine .inl ?_
          rw [h3]
          unfold swS
          rw [if_neg hc]
      · refine .inr ⟨e :: Q, x, R, by rw [h4]; rfl, h5, ?_⟩
        rw [h6, List.cons_append, bal_cons]
        omega
theorem pre_of {le : Int × Int → Int × Int → Bool} (ht : ∀ a b c, le a b = true → le b c = true → le a c = true) (t : Int × Int) : ∀ (l : List (Int × Int)), l.Pairwise (fun a b => le a b = true) → l = l.filter (fun e => le e t) ++ l.filter (fun e => !le e t)
  | [], _ => rfl
  | a :: r, h => by
    rw [List.pairwise_cons] at h
    cases q : le a t with
    | true =>
      rw [List.filter_cons, if_pos q, List.filter_cons, if_neg (by simp [q]), List.cons_append, ← pre_of ht t r h.2]
    | false =>
      have hn : ∀ b ∈ r, le b t = false := fun b hb => by
        cases q2 : le b t with
        | false => rfl
        | true => rw [ht a b t (h.1 b hb) q2] at q; cases q
      rw [List.filter_cons, if_neg (by simp [q]), List.filter_cons, if_pos (by simp [q])]
      have e1 : r.filter (fun e => le e t) = [] := List.filter_eq_nil_iff.mpr fun b hb => by simp [hn b hb]
      have e2 : r.filter (fun e => !le e t) = r := List.filter_eq_self.mpr fun b hb => by simp [hn b hb]
      rw [e1, e2]
      rfl
theorem cnt_bal (L : List (Int × Int)) (h : ∀ p ∈ L, p.1 ≤ p.2) (x : Int) : bal ((evs L).filter fun e => leII e (x, 0)) = cnt L x := by
  have hp : (evs L).Perm ((L.map fun p : Int × Int => (p.1, (0 : Int))) ++ (L.map fun p : Int × Int => (p.2, (1 : Int)))) := List.mergeSort_perm _ _
  rw [bal_perm (hp.filter _), List.filter_append, bal_app]
  induction L with
  | nil => rfl
  | cons p L ih =>
    have ih := ih (fun q hq => h q (List.mem_cons_of_mem _ hq)) (List.mergeSort_perm _ _)
    have hp := h p List.mem_cons_self
    have c1 : leII (p.1, 0) (x, 0) = decide (p.1 ≤ x) := by unfold leII; rw [← decide_not, decide_eq_decide]; simp; try omega
    have c2 : leII (p.2, 1) (x, 0) = decide (p.2 < x) := by unfold leII; rw [← decide_not, decide_eq_decide]; simp; try omega
    unfold cnt at ih ⊢
    simp only [List.map_cons, List.filter_cons, c1, c2]
    by_cases h1 : p.1 ≤ x
    · by_cases h2 : p.2 < x
      · have h3 : ¬ x ≤ p.2 := by omega
        simp only [h1, h2, h3, decide_true, decide_false, if_true, if_false, bal_cons, Bool.and_false, wt, Bool.false_eq_true]
        omega
      · have h3 : x ≤ p.2 := by omega
        simp only [h1, h2, h3, decide_true, decide_false, if_true, if_false, bal_cons, Bool.and_true, wt, Bool.false_eq_true, List.length_cons]
        omega
    · have h2 : ¬ p.2 < x := by omega
      simp only [h1, h2, decide_false, if_false, Bool.false_and, Bool.false_eq_true]
      omega
theorem evs_mem {L : List (Int × Int)} {e : Int × Int} (h : e ∈ evs L) : (∃ p ∈ L, e = (p.1, 0)) ∨ ∃ p ∈ L, e = (p.2, 1) := by
  have := (List.mergeSort_perm _ _).mem_iff.mp h
  rcases List.mem_append.mp this with h | h <;> obtain ⟨p, hp, e⟩ := List.mem_map.mp h
  · exact .inl ⟨p, hp, e.symm⟩
  · exact .inr ⟨p, hp, e.symm⟩
theorem evs_01 {L : List (Int × Int)} : ∀ e ∈ evs L, e.2 = 0 ∨ e.2 = 1 := fun e h => by
  rcases evs_mem h with ⟨p, _, rfl⟩ | ⟨p, _, rfl⟩
  · exact .inl rfl
  · exact .inr rfl
theorem evs_pair (L : List (Int × Int)) : (evs L).Pairwise fun a b => leII a b = true := leII_pair _
theorem dep_ge {L : List (Int × Int)} (h : ∀ p ∈ L, p.1 ≤ p.2) (x : Int) : cnt L x ≤ dep L := by
  have := (sw_2 (evs L) (0, 0) (Int.le_refl _) evs_01).2.1 _ _ (pre_of leII_trans (x, 0) (evs L) (evs_pair L))
  rw [cnt_bal L h] at this
  unfold dep
  simpa using this
theorem cnt_pos {L : List (Int × Int)} {p : Int × Int} (h : ∀ p ∈ L, p.1 ≤ p.2) (hp : p ∈ L) : 1 ≤ cnt L p.1 := by
  unfold cnt
  have : p ∈ L.filter fun q => decide (q.1 ≤ p.1) && decide (p.1 ≤ q.2) := List.mem_filter.mpr ⟨hp, by simp [h p hp]⟩
  have := List.length_pos_of_mem this
  omega
theorem dep_at {L : List (Int × Int)} (h : ∀ p ∈ L, p.1 ≤ p.2) (hne : L ≠ []) : ∃ p ∈ L, cnt L p.1 = dep L := by
  obtain ⟨h1, h2, h3⟩ := sw_2 (evs L) (0, 0) (Int.le_refl _) evs_01
  obtain ⟨p0, L0, rfl⟩ := List.exists_cons_of_ne_nil hne
  generalize hL : p0 :: L0 = L at *
  have hp0 : p0 ∈ L := by rw [← hL]; exact List.mem_cons_self
  rcases h3 with h3 | ⟨Q, e, R, h4, h5, h6⟩
  · have := dep_ge h p0.1
    have := cnt_pos h hp0
    unfold dep at *
    simp only at h3
    omega
  · have he : e ∈ evs L := by rw [h4]; simp
    rcases evs_mem he with ⟨p, hp, rfl⟩ | ⟨p, hp, rfl⟩
    · refine ⟨p, hp, Int.le_antisymm (dep_ge h _) ?_⟩
      have hs := evs_pair L
      rw [h4, List.pairwise_append, List.pairwise_cons] at hs
      rw [← cnt_bal L h, h4]
      unfold dep
      rw [h6, List.filter_append, List.filter_cons_of_pos (by unfold leII; simp)]
      have e1 : Q.filter (fun e => leII e (p.1, 0)) = Q := List.filter_eq_self.mpr fun a ha => hs.2.2 a ha _ List.mem_cons_self
      rw [e1, bal_app, bal_app, bal_cons]
      have e2 : ∀ R' : List (Int × Int), (∀ a ∈ R', leII (p.1, 0) a = true) → 0 ≤ bal (R'.filter fun e => leII e (p.1, 0)) := by
        intro R'
        induction R' with
        | nil => intro _; simp [bal]
        | cons a R' ih =>
          intro h
          have ih := ih fun b hb => h b (List.mem_cons_of_mem _ hb)
          rw [List.filter_cons]
          split
          · rename_i ha
            have h2 := h a List.mem_cons_self
            rw [bal_cons]
            have : a.2 = 0 := by
              unfold leII at ha h2
              simp at ha h2
              omega
            unfold wt
            omega
          · exact ih
      have := e2 R hs.2.1.1
      simp only [bal_cons, show bal [] = 0 from rfl]
      omega
    · exact absurd h5 (by simp)
theorem cnt_le (L : List (Int × Int)) (x : Int) : cnt L x ≤ L.length := by
  unfold cnt
  have := List.length_filter_le (fun p : Int × Int => decide (p.1 ≤ x) && decide (x ≤ p.2)) L
  omega
theorem cnt_all {L : List (Int × Int)} {x : Int} : cnt L x = L.length ↔ ∀ p ∈ L, p.1 ≤ x ∧ x ≤ p.2 := by
  unfold cnt
  constructor
  · intro h p hp
    have h' : (L.filter fun p => decide (p.1 ≤ x) && decide (x ≤ p.2)).length = L.length := by omega
    have := List.length_filter_eq_length_iff.mp h' p hp
    simpa using this
  · intro h
    rw [List.filter_eq_self.mpr fun p hp => by simp [h p hp]]
end CS
set_option Elab.async false
set_option linter.all false
set_option maxRecDepth 100000
set_option maxHeartbeats 4000000
set_option autoImplicit false
namespace CS
open PySem PySem.Spec PyProof.Rows L2
/-! ### ranges that meet, two by two and all at once -/
theorem mtB_true {ps : List (Int × Int)} (h : mtB (bnd ps) = true) : ∃ x, ∀ p ∈ ps, p.1 ≤ x ∧ x ≤ p.2 := by
  cases ps with
  | nil => exact ⟨0, fun p hp => by cases hp⟩
  | cons a ps =>
    obtain ⟨q, e⟩ := bnd_cons a ps
    rw [e] at h
    have hq : q.1 ≤ q.2 := of_decide_eq_true h
    have := (bnd_some e).1
    exact ⟨q.1, fun p hp => ⟨(this p hp).1, by have := (this p hp).2; omega⟩⟩
theorem mtB_false {ps : List (Int × Int)} (h : mtB (bnd ps) = false) : ∃ a ∈ ps, ∃ b ∈ ps, b.2 < a.1 := by
  cases ps with
  | nil => cases h
  | cons a ps =>
    obtain ⟨q, e⟩ := bnd_cons a ps
    rw [e] at h
    have hq : ¬ q.1 ≤ q.2 := of_decide_eq_false h
    obtain ⟨_, ⟨x, hx, e1⟩, y, hy, e2⟩ := bnd_some e
    exact ⟨x, hx, y, hy, by omega⟩
theorem mtB_of {ps : List (Int × Int)} {x : Int} (h : ∀ p ∈ ps, p.1 ≤ x ∧ x ≤ p.2) : mtB (bnd ps) = true := by
  cases e : mtB (bnd ps) with
  | true => rfl
  | false =>
    obtain ⟨a, ha, b, hb, hc⟩ := mtB_false e
    have h1 := h a ha
    have h2 := h b hb
    omega
theorem dep_le {L : List (Int × Int)} (h : ∀ p ∈ L, p.1 ≤ p.2) (hne : L ≠ []) : dep L ≤ L.length := by
  obtain ⟨p, _, e⟩ := dep_at h hne
  rw [← e]
  exact cnt_le L _
theorem dep_all {L : List (Int × Int)} (h : ∀ p ∈ L, p.1 ≤ p.2) (hne : L ≠ []) : mtB (bnd L) = decide (dep L = L.length) := by
  cases e : mtB (bnd L) with
  | true =>
    obtain ⟨x, hx⟩ := mtB_true e
    have h1 := cnt_all.mpr hx
    have h2 := dep_ge h x
    have h3 := dep_le h hne
    exact (decide_eq_true (by omega)).symm
  | false =>
    refine (decide_eq_false fun hd => ?_).symm
    obtain ⟨p, _, hp⟩ := dep_at h hne
    rw [hd] at hp
    rw [mtB_of (cnt_all.mp hp)] at e
    cases e
theorem mtB_pair (a b : Int × Int) (ha : a.1 ≤ a.2) (hb : b.1 ≤ b.2) : mtB (bnd [a, b]) = mt a b := by
  show decide (max a.1 b.1 ≤ min a.2 b.2) = (decide (b.1 ≤ a.2) && decide (a.1 ≤ b.2))
  rw [← Bool.decide_and, decide_eq_decide]
  omega
theorem dep_pair (a b : Int × Int) (ha : a.1 ≤ a.2) (hb : b.1 ≤ b.2) : decide (dep [a, b] = 1) = !mt a b := by
  have h : ∀ p ∈ [a, b], p.1 ≤ p.2 := fun p hp => by
    simp at hp
    rcases hp with rfl | rfl <;> assumption
  have h1 := dep_all h (by simp)
  rw [mtB_pair a b ha hb] at h1
  have h2 := dep_le h (by simp)
  have h3 := dep_ge h a.1
  have h4 := cnt_pos h (p := a) (by simp)
  rw [h1]
  simp only [List.length_cons, List.length_nil] at h2 ⊢
  rw [← decide_not, decide_eq_decide]
  omega
theorem mt_symm (a b : Int × Int) : mt a b = mt b a := by
  unfold mt
  rw [Bool.and_comm]
/-! ### the clashes are the pairs that do not meet -/
def mtAt (L : List (Int × Int)) (i j : Nat) : Bool := match L[i]?, L[j]? with
  | some a, some b => mt a b
  | _, _ => true
def bad2 (L : List (Int × Int)) : List Nat → Bool
  | [i, j] => !mtAt L i j
  | _ => false
def due (L : List (Int × Int)) : List (List Nat) := (prs L.length).filter (bad2 L)
theorem prs_mem {n i j : Nat} : [i, j] ∈ prs n ↔ i < j ∧ j < n := by
  unfold prs
  rw [List.mem_flatMap]
  constructor
  · rintro ⟨a, ha, h⟩
    obtain ⟨b, hb, e⟩ := List.mem_map.mp h
    simp only [List.cons.injEq, and_true] at e
    rw [rgN_mem] at hb
    have := List.mem_range.mp ha
    omega
  · intro h
    refine ⟨i, List.mem_range.mpr (by omega), List.mem_map.mpr ⟨j, ?_, rfl⟩⟩
    rw [rgN_mem]
    omega
theorem prs_two {n : Nat} {s : List Nat} (h : s ∈ prs n) : ∃ i j, s = [i, j] ∧ i < j ∧ j < n := by
  obtain ⟨i, _, h2⟩ := List.mem_flatMap.mp h
  obtain ⟨j, _, rfl⟩ := List.mem_map.mp h2
  have := prs_mem.mp h
  exact ⟨i, j, rfl, this.1, this.2⟩
theorem prs_apart : ∀ n < 9, (prs n).Pairwise fun s t => sub s t = false := by decide +kernel
theorem sb_skip (L : List (Int × Int)) : ∀ (os f : List (List Nat)), (∀ s ∈ os, inAny f s = true ∨ mtB (bnd (pick L s)) = true) → os.foldl (sbS L) f = f
  | [], f, _ => rfl
  | s :: os, f, h => by
    have e : sbS L f s = f := by
      unfold sbS
      rcases h s List.mem_cons_self with h | h <;> simp [h]
    rw [List.foldl_cons, e]
    exact sb_skip L os f fun t ht => h t (List.mem_cons_of_mem _ ht)
theorem sb_pairs (L : List (Int × Int)) : ∀ (os f : List (List Nat)), (∀ one ∈ f, ∀ s ∈ os, sub one s = false) → os.Pairwise (fun s t => sub s t = false) → (∀ s ∈ os, (!mtB (bnd (pick L s))) = bad2 L s) → os.foldl (sbS L) f = f ++ os.filter (bad2 L)
  | [], f, _, _, _ => by simp
  | s :: os, f, h1, h2, h3 => by
    rw [List.pairwise_cons] at h2
    have hin : inAny f s = false := by
      unfold inAny
      rw [List.any_eq_false]
      intro one ho
      rw [h1 one ho s List.mem_cons_self]
      exact Bool.false_ne_true
    have e : sbS L f s = if bad2 L s = true then f ++ [s] else f := by
      unfold sbS
      rw [hin, h3 s List.mem_cons_self]
      simp
    rw [List.foldl_cons, e]
    by_cases hb : bad2 L s = true
    · rw [if_pos hb, sb_pairs L os (f ++ [s]) (fun one ho t ht => ?_) h2.2 fun t ht => h3 t (List.mem_cons_of_mem _ ht), List.filter_cons, if_pos hb, List.append_assoc]
      · rfl
      · rcases List.mem_append.mp ho with ho | ho
        · exact h1 one ho t (List.mem_cons_of_mem _ ht)
        · rw [List.mem_singleton.mp ho]
          exact h2.1 t ht
    · rw [if_neg hb, sb_pairs L os f (fun one ho t ht => h1 one ho t (List.mem_cons_of_mem _ ht)) h2.2 fun t ht => h3 t (List.mem_cons_of_mem _ ht), List.filter_cons, if_neg hb]
theorem pick_mem {L : List (Int × Int)} {s : List Nat} {p : Int × Int} (h : p ∈ pick L s) : ∃ i ∈ s, L[i]? = some p := List.mem_filterMap.mp h
/-- ranges of places that do not all meet: two that do not -/
theorem helly {L : List (Int × Int)} (hle : ∀ p ∈ L, p.1 ≤ p.2) {s : List Nat} (hs : ∀ i ∈ s, i < L.length) (h : mtB (bnd (pick L s)) = false) : inAny (due L) s = true := by
  obtain ⟨a, ha, b, hb, hc⟩ := mtB_false h
  obtain ⟨i, hi, ei⟩ := pick_mem ha
  obtain ⟨j, hj, ej⟩ := pick_mem hb
  have hla := hle a (List.mem_of_getElem? ei)
  have hne : i ≠ j := fun e => by
    subst e
    rw [ei] at ej
    cases ej
    omega
  have hbad : mt a b = false := by
    unfold mt
    rw [Bool.and_eq_false_iff]
    exact .inr (decide_eq_false (by omega))
  have key : ∀ i j a b, i ∈ s → j ∈ s → L[i]? = some a → L[j]? = some b → mt a b = false → i < j → inAny (due L) s = true := by
    intro i j a b hi hj ei ej hm hl
    unfold inAny
    rw [List.any_eq_true]
    refine ⟨[i, j], List.mem_filter.mpr ⟨prs_mem.mpr ⟨hl, hs j hj⟩, ?_⟩, ?_⟩
    · show (!mtAt L i j) = true
      unfold mtAt
      rw [ei, ej]
      simp only [hm, Bool.not_false]
    · unfold sub
      simp [hi, hj]
  rcases Nat.lt_or_gt_of_ne hne with hl | hl
  · exact key i j a b hi hj ei ej hbad hl
  · exact key j i b a hj hi ej ei (by rw [mt_symm]; exact hbad) hl
theorem sb_due {L : List (Int × Int)} (h : Pts L) : sb L = due L := by
  have hn : L.length < 9 := by have := h.l8; omega
  unfold sb
  have hin := as_inc L.length hn
  have hcut := as_cut L.length hn
  rw [hcut, List.foldl_append, List.foldl_append]
  have a1 : ((asF L.length L.length).filter fun s => decide (s.length ≤ 1)).foldl (sbS L) [] = [] := by
    refine sb_skip L _ _ fun s hs => .inr ?_
    obtain ⟨hs1, hs2⟩ := List.mem_filter.mp hs
    have hs2 : s.length ≤ 1 := of_decide_eq_true hs2
    cases e : mtB (bnd (pick L s)) with
    | true => rfl
    | false =>
      obtain ⟨a, ha, b, hb, hc⟩ := mtB_false e
      obtain ⟨i, hi, ei⟩ := pick_mem ha
      obtain ⟨j, hj, ej⟩ := pick_mem hb
      have : i = j := by
        match s, hs2, hi, hj with
        | [x], _, hi, hj => rw [List.mem_singleton.mp hi, List.mem_singleton.mp hj]
      subst this
      rw [ei] at ej
      cases ej
      have := h.le a (List.mem_of_getElem? ei)
      omega
  have a2 : (prs L.length).foldl (sbS L) [] = due L := by
    rw [sb_pairs L _ _ (fun _ h => by cases h) (prs_apart L.length hn) fun s hs => ?_]
    · rfl
    · obtain ⟨i, j, rfl, hij, hj⟩ := prs_two hs
      have ei : L[i]? = some (L[i]'(by omega)) := List.getElem?_eq_getElem _
      have ej : L[j]? = some (L[j]'hj) := List.getElem?_eq_getElem _
      have e : pick L [i, j] = [L[i]'(by omega), L[j]'hj] := by simp [pick, ei, ej]
      rw [e, mtB_pair _ _ (h.le _ (List.getElem_mem _)) (h.le _ (List.getElem_mem _))]
      show _ = !mtAt L i j
      unfold mtAt
      rw [ei, ej]
  rw [a1, a2]
  refine sb_skip L _ _ fun s hs => ?_
  obtain ⟨hs1, _⟩ := List.mem_filter.mp hs
  cases e : mtB (bnd (pick L s)) with
  | true => exact .inr rfl
  | false => exact .inl (helly h.le (hin s hs1).2 e)
end CS
set_option Elab.async false
set_option linter.all false
set_option maxRecDepth 100000
set_option maxHeartbeats 4000000
set_option autoImplicit false
namespace CS
open PySem PySem.Spec PyProof.Rows L2
/-! ### the greatest sets without a clash -/
def around (L : List (Int × Int)) (x : Int) (i : Nat) : Bool := match L[i]? with
  | some p => decide (p.1 ≤ x) && decide (x ≤ p.2)
  | none => false
theorem cnt_range : ∀ (L : List (Int × Int)) (x : Int), cnt L x = (((List.range L.length).filter (around L x)).length : Int)
  | [], x => rfl
  | p :: L, x => by
    have ih := cnt_range L x
    rw [List.length_cons, List.range_succ_eq_map, List.filter_cons, List.filter_map]
    have e : (around (p :: L) x) ∘ Nat.succ = around L x := by
      funext i
      show around (p :: L) x (i + 1) = around L x i
      unfold around
      rw [List.getElem?_cons_succ]
    rw [e]
    unfold cnt at ih ⊢
    rw [List.filter_cons]
    have e0 : around (p :: L) x 0 = (decide (p.1 ≤ x) && decide (x ≤ p.2)) := rfl
    rw [e0]
    split
    · simp only [List.length_cons, List.length_map]
      omega
    · simp only [List.length_map]
      exact ih
theorem set_cnt {L : List (Int × Int)} {s : List Nat} {x : Int} (hp : s.Pairwise (· < ·)) (hs : ∀ i ∈ s, i < L.length) (hx : ∀ p ∈ pick L s, p.1 ≤ x ∧ x ≤ p.2) : (s.length : Int) ≤ cnt L x := by
  rw [cnt_range]
  have hn : s.Nodup := hp.imp fun h => Nat.ne_of_lt h
  have : s.length ≤ ((List.range L.length).filter (around L x)).length := hn.length_le_of_subset fun i hi => by
    have hl := hs i hi
    refine List.mem_filter.mpr ⟨List.mem_range.mpr hl, ?_⟩
    have h1 : L[i]? = some (L[i]'hl) := List.getElem?_eq_getElem hl
    have := hx (L[i]'hl) (List.mem_filterMap.mpr ⟨i, hi, h1⟩)
    unfold around
    rw [h1]
    simp [this.1, this.2]
  omega
theorem good_le {L : List (Int × Int)} (h : Pts L) {s : List Nat} (hs : s ∈ goodS L) : (s.length : Int) ≤ dep L := by
  have hn : L.length < 9 := by have := h.l8; omega
  obtain ⟨h1, h2⟩ := List.mem_filter.mp hs
  have hi := as_inc L.length hn s h1
  rw [sb_due h] at h2
  cases e : mtB (bnd (pick L s)) with
  | true =>
    obtain ⟨x, hx⟩ := mtB_true e
    exact Int.le_trans (set_cnt hi.1 hi.2 hx) (dep_ge h.le x)
  | false =>
    rw [helly h.le hi.2 e] at h2
    cases h2
theorem good_has {L : List (Int × Int)} (h : Pts L) : ∃ s ∈ goodS L, (s.length : Int) = dep L := by
  have hne : L ≠ [] := fun e => by have := h.pos; rw [e] at this; simp at this
  obtain ⟨p, hp, e⟩ := dep_at h.le hne
  refine ⟨(List.range L.length).filter (around L p.1), List.mem_filter.mpr ⟨as_full _ _, ?_⟩, by rw [← e, cnt_range]⟩
  rw [sb_due h]
  cases q : inAny (due L) ((List.range L.length).filter (around L p.1)) with
  | false => rfl
  | true =>
    unfold inAny at q
    obtain ⟨one, h1, h2⟩ := List.any_eq_true.mp q
    obtain ⟨h3, h4⟩ := List.mem_filter.mp h1
    obtain ⟨i, j, rfl, hij, hj⟩ := prs_two h3
    unfold sub at h2
    simp only [List.all_cons, List.all_nil, Bool.and_true, Bool.and_eq_true, List.contains_iff_mem, List.mem_filter] at h2
    have h4 : (!mtAt L i j) = true := h4
    have ei : L[i]? = some (L[i]'(by omega)) := List.getElem?_eq_getElem _
    have ej : L[j]? = some (L[j]'hj) := List.getElem?_eq_getElem _
    have h5 := h2.1.2
    have h6 := h2.2.2
    unfold around at h5 h6
    unfold mtAt at h4
    rw [ei] at h5
    rw [ej] at h6
    rw [ei, ej] at h4
    unfold mt at h4
    simp at h4 h5 h6
    omega
theorem good_ne {L : List (Int × Int)} (h : Pts L) : goodS L ≠ [] := fun e => by
  obtain ⟨s, hs, _⟩ := good_has h
  rw [e] at hs
  cases hs
theorem last_dep {L : List (Int × Int)} (h : Pts L) : (lastN (goodS L) : Int) = dep L := by
  have hn : L.length < 9 := by have := h.l8; omega
  have hne := good_ne h
  have e : lastN (goodS L) = ((goodS L).getLast hne).length := by unfold lastN; rw [List.getLast?_eq_some_getLast hne]
  rw [e]
  refine Int.le_antisymm (good_le h (List.getLast_mem hne)) ?_
  obtain ⟨s, hs, e2⟩ := good_has h
  rw [← e2]
  have hp : (goodS L).Pairwise fun s t => s.length ≤ t.length := (as_ord L.length hn).filter _
  have key : ∀ (l : List (List Nat)) (hl : l ≠ []), l.Pairwise (fun s t => s.length ≤ t.length) → ∀ s ∈ l, s.length ≤ (l.getLast hl).length := by
    intro l
    induction l with
    | nil => intro hl; exact absurd rfl hl
    | cons a l ih =>
      intro hl hp s hs
      rw [List.pairwise_cons] at hp
      cases l with
      | nil => rw [List.mem_singleton.mp hs]; exact Nat.le_refl _
      | cons b l =>
        rw [List.getLast_cons (by simp)]
        rcases List.mem_cons.mp hs with rfl | hs
        · exact hp.1 _ (List.getLast_mem _)
        · exact ih (by simp) hp.2 s hs
  have := key (goodS L) hne hp s hs
  omega
theorem ms_len {L : List (Int × Int)} (h : Pts L) {s : List Nat} (hs : s ∈ ms L) : (s.length : Int) = dep L := by
  have := (List.mem_filter.mp hs).2
  rw [beq_iff_eq] at this
  rw [this]
  exact last_dep h
theorem ms_cons {L : List (Int × Int)} (h : Pts L) : ∃ s r, ms L = s :: r := by
  obtain ⟨s, hs, e⟩ := good_has h
  have hm : s ∈ ms L := List.mem_filter.mpr ⟨hs, by rw [beq_iff_eq]; have := last_dep h; omega⟩
  cases e : ms L with
  | nil => rw [e] at hm; cases hm
  | cons a r => exact ⟨a, r, rfl⟩
theorem due_sorted {L : List (Int × Int)} (h : Pts L) : (sb L).mergeSort leL = due L := by
  rw [sb_due h]
  refine List.mergeSort_of_pairwise ?_
  refine List.Pairwise.filter _ ?_
  have key : ∀ n < 9, (prs n).Pairwise fun s t => (match s, t with
    | [i, j], [i', j'] => !decide (i' < i ∨ (i' = i ∧ j' < j))
    | _, _ => false) = true := by decide +kernel
  refine List.Pairwise.imp ?_ (key L.length (by have := h.l8; omega))
  intro s t hst
  split at hst
  · rw [leL_pair]; exact hst
  · cases hst
/-! ### counting pairs -/
/-- how many pairs stand in R -/
def prc (R : Int × Int → Int × Int → Bool) : List (Int × Int) → Nat
  | [] => 0
  | a :: l => (l.filter (R a)).length + prc R l
theorem prc_snoc (R : Int × Int → Int × Int → Bool) (b : Int × Int) : ∀ l : List (Int × Int), prc R (l ++ [b]) = prc R l + (l.filter fun a => R a b).length
  | [] => by simp [prc]
  | a :: l => by
    rw [List.cons_append, prc, prc, prc_snoc R b l, List.filter_append, List.length_append, List.filter_cons]
    cases h : R a b <;> simp [h, List.filter_cons] <;> omega
theorem mp_snoc (L : List (Int × Int)) (b : Int × Int) : mpL (L ++ [b]) = mpL L + ((L.filter (mt b)).length : Int) := by
  unfold mpL
  rw [List.zipIdx_append, List.foldl_append]
  have key : ∀ (os : List Rq) (s : Int), (∀ q ∈ os, q.2 ≤ L.length) → os.foldl (mpS (L ++ [b])) s = os.foldl (mpS L) s := by
    intro os
    induction os with
    | nil => intro s _; rfl
    | cons q os ih =>
      intro s hq
      rw [List.foldl_cons, List.foldl_cons, ih _ fun x hx => hq x (List.mem_cons_of_mem _ hx)]
      have : mpS (L ++ [b]) s q = mpS L s q := by
        unfold mpS
        rw [List.take_append_of_le_length (hq q List.mem_cons_self)]
      rw [this]
  rw [key (L.zipIdx 0) 0 fun q hq => (by have := List.snd_lt_of_mem_zipIdx hq; omega)]
  simp only [List.zipIdx_cons, List.zipIdx_nil, List.foldl_cons, List.foldl_nil]
  generalize (L.zipIdx 0).foldl (mpS L) 0 = z
  unfold mpS
  simp
theorem mp_prc (L : List (Int × Int)) : mpL L = (prc mt L : Int) := by
  have key : ∀ l : List (Int × Int), mpL l.reverse = (prc mt l.reverse : Int) := by
    intro l
    induction l with
    | nil => rfl
    | cons a l ih =>
      rw [List.reverse_cons, mp_snoc, prc_snoc, ih]
      have : (fun x => mt x a) = mt a := by funext x; exact mt_symm x a
      rw [this]
      push_cast
      rfl
  have := key L.reverse
  rwa [List.reverse_reverse] at this
theorem filter_split {α : Type} (f : α → Bool) : ∀ l : List α, (l.filter f).length + (l.filter fun b => !f b).length = l.length
  | [] => rfl
  | a :: l => by
    have ih := filter_split f l
    rw [List.filter_cons, List.filter_cons]
    cases h : f a <;> simp [h] <;> omega
theorem prc_both (R : Int × Int → Int × Int → Bool) : ∀ l : List (Int × Int), 2 * (prc R l + prc (fun a b => !R a b) l) + l.length = l.length * l.length
  | [] => rfl
  | a :: l => by
    have ih := prc_both R l
    have h : (l.filter (R a)).length + (l.filter fun b => !R a b).length = l.length := by
      exact filter_split (R a) l
    rw [prc, prc, List.length_cons]
    have e : (l.length + 1) * (l.length + 1) = l.length * l.length + 2 * l.length + 1 := by
      rw [Nat.add_mul, Nat.mul_add]; omega
    omega
end CS
set_option Elab.async false
set_option linter.all false
set_option maxRecDepth 100000
set_option maxHeartbeats 4000000
set_option autoImplicit false
namespace CS
open PySem PySem.Spec PyProof.Rows L2
def nmt (a b : Int × Int) : Bool := !mt a b
theorem due_row {L : List (Int × Int)} {i : Nat} {a : Int × Int} (hi : L[i]? = some a) : ∀ (l pre : List (Int × Int)), L = pre ++ l → ((rgN pre.length l.length).filter fun j => !mtAt L i j).length = (l.filter (nmt a)).length
  | [], pre, h => rfl
  | b :: l, pre, h => by
    have ih := due_row hi l (pre ++ [b]) (by rw [h]; simp)
    have hb : L[pre.length]? = some b := by rw [h]; simp
    rw [List.length_append, List.length_singleton] at ih
    rw [List.length_cons, rgN, List.filter_cons, List.filter_cons]
    have e : (!mtAt L i pre.length) = nmt a b := by
      unfold mtAt nmt
      rw [hi, hb]
    rw [e]
    cases nmt a b
    · simpa using ih
    · simp only [if_true, List.length_cons]; omega
theorem due_rows {L : List (Int × Int)} : ∀ (l pre : List (Int × Int)), L = pre ++ l → (((rgN pre.length l.length).flatMap fun i => (rgN (i + 1) (L.length - (i + 1))).map fun j => [i, j]).filter (bad2 L)).length = prc nmt l
  | [], pre, h => rfl
  | a :: l, pre, h => by
    have ih := due_rows (L := L) l (pre ++ [a]) (by rw [h]; simp)
    have ha : L[pre.length]? = some a := by rw [h]; simp
    have hl : L.length - (pre.length + 1) = l.length := by rw [h]; simp; omega
    have hr := due_row ha l (pre ++ [a]) (by rw [h]; simp)
    rw [List.length_append, List.length_singleton] at ih hr
    rw [List.length_cons, rgN, List.flatMap_cons, List.filter_append, List.length_append, ih, prc, hl, List.filter_map, List.length_map]
    have e : bad2 L ∘ (fun j => [pre.length, j]) = fun j => !mtAt L pre.length j := rfl
    rw [e, hr]
theorem rgN_range (n : Nat) : rgN 0 n = List.range n := by
  have key : ∀ n a, rgN a n = List.range' a n := by
    intro n
    induction n with
    | zero => intro a; rfl
    | succ n ih => intro a; rw [rgN, ih, List.range'_succ]
  rw [key, List.range_eq_range']
theorem due_len (L : List (Int × Int)) : (due L).length = prc nmt L := by
  have := due_rows (L := L) L [] rfl
  rw [List.length_nil, rgN_range] at this
  exact this
/-- the pairs that meet, and those that do not -/
theorem mp_due (L : List (Int × Int)) : 2 * (mpL L + (due L).length) = L.length * (L.length - 1) := by
  rw [mp_prc, due_len]
  have := prc_both mt L
  have e : prc (fun a b => !mt a b) L = prc nmt L := rfl
  rw [e] at this
  have h2 : ((2 * (prc mt L + prc nmt L) + L.length : Nat) : Int) = ((L.length * L.length : Nat) : Int) := congrArg Nat.cast this
  push_cast at h2
  rw [Int.mul_sub]
  omega
theorem fdiv2_of {a b : Int} (h : 2 * b = a) : a.fdiv 2 = b := by
  rw [Int.fdiv_eq_ediv_of_nonneg _ (by omega)]
  omega
/-! ### how many pairs meet at a depth -/
theorem prc_perm {R : Int × Int → Int × Int → Bool} (hR : ∀ a b, R a b = R b a) {l m : List (Int × Int)} (h : l.Perm m) : prc R l = prc R m := by
  induction h with
  | nil => rfl
  | cons x h ih => rw [prc, prc, ih, (h.filter _).length_eq]
  | swap x y l =>
    rw [prc, prc, prc, prc, List.filter_cons, List.filter_cons, hR x y]
    cases R y x <;> simp <;> omega
  | trans _ _ h1 h2 => exact h1.trans h2
theorem cnt_perm {l m : List (Int × Int)} (h : l.Perm m) (x : Int) : cnt l x = cnt m x := by
  unfold cnt
  rw [(h.filter _).length_eq]
def tri (d : Nat) : Nat → Nat
  | 0 => 0
  | n + 1 => tri d n + min n (d - 1)
theorem max_low : ∀ (L : List (Int × Int)), L ≠ [] → ∃ p ∈ L, ∀ q ∈ L, q.1 ≤ p.1
  | [], h => absurd rfl h
  | [a], _ => ⟨a, List.mem_cons_self, fun q hq => by rw [List.mem_singleton.mp hq]; exact Int.le_refl _⟩
  | a :: b :: L, _ => by
    obtain ⟨p, hp, h⟩ := max_low (b :: L) (by simp)
    by_cases hc : a.1 ≤ p.1
    · exact ⟨p, List.mem_cons_of_mem _ hp, fun q hq => by
        rcases List.mem_cons.mp hq with rfl | hq
        · exact hc
        · exact h q hq⟩
    · exact ⟨a, List.mem_cons_self, fun q hq => by
        rcases List.mem_cons.mp hq with rfl | hq
        · exact Int.le_refl _
        · have := h q hq; omega⟩
theorem prc_tri {d : Nat} : ∀ (n : Nat) (L : List (Int × Int)), L.length = n → (∀ p ∈ L, p.1 ≤ p.2) → (∀ x, cnt L x ≤ d) → prc mt L ≤ tri d n
  | 0, L, hl, _, _ => by rw [List.length_eq_zero_iff.mp hl]; exact Nat.le_refl _
  | n + 1, L, hl, hle, hd => by
    obtain ⟨p, hp, hmax⟩ := max_low L (fun e => by rw [e] at hl; simp at hl)
    have hperm : L.Perm (p :: L.erase p) := List.perm_cons_erase hp
    have hl2 : (L.erase p).length = n := by have := hperm.length_eq; simp at this; omega
    have hle2 : ∀ q ∈ L.erase p, q.1 ≤ q.2 := fun q hq => hle q (List.mem_of_mem_erase hq)
    have hc : ∀ x, cnt L x = cnt (p :: L.erase p) x := fun x => cnt_perm hperm x
    have hd2 : ∀ x, cnt (L.erase p) x ≤ d := fun x => by
      have := hd x
      rw [hc x] at this
      unfold cnt at this ⊢
      rw [List.filter_cons] at this
      split at this
      · simp only [List.length_cons] at this; omega
      · exact this
    have ih := prc_tri n (L.erase p) hl2 hle2 hd2
    rw [prc_perm mt_symm hperm, prc, tri]
    have h1 : ((L.erase p).filter (mt p)).length ≤ n := by
      have := List.length_filter_le (mt p) (L.erase p)
      omega
    have h2 : ((L.erase p).filter (mt p)).length ≤ d - 1 := by
      have h3 := hd p.1
      rw [hc] at h3
      unfold cnt at h3
      rw [List.filter_cons, if_pos (by simp [hle p hp]), List.length_cons] at h3
      have h4 : (L.erase p).filter (mt p) = (L.erase p).filter fun q => mt p q && (decide (q.1 ≤ p.1) && decide (p.1 ≤ q.2)) := by
        refine List.filter_congr fun q hq => ?_
        have hq1 := hmax q (List.mem_of_mem_erase hq)
        cases hm : mt p q with
        | false => rfl
        | true =>
          unfold mt at hm
          simp at hm
          simp [hq1, hm.2]
      have h5 : ((L.erase p).filter (mt p)).length ≤ ((L.erase p).filter fun q => decide (q.1 ≤ p.1) && decide (p.1 ≤ q.2)).length := by
        rw [h4, ← List.filter_filter]
        exact List.length_filter_le _ _
      omega
    omega
theorem tri_low {d : Nat} : ∀ n : Nat, n ≤ d → 2 * (tri d n : Int) = n * (n - 1)
  | 0, _ => rfl
  | n + 1, h => by
    have ih := tri_low (d := d) n (by omega)
    rw [tri]
    have e : min n (d - 1) = n := by omega
    rw [e]
    have e2 : ((tri d n + n : Nat) : Int) = (tri d n : Int) + n := by omega
    have e3 : ((n + 1 : Nat) : Int) = (n : Int) + 1 := by omega
    rw [e2, e3, Int.mul_add, ih, Int.add_sub_cancel, Int.mul_sub, Int.add_mul]
    omega
theorem tri_high {d : Nat} (hd : 1 ≤ d) : ∀ k : Nat, 2 * (tri d (d + k) : Int) = d * (d - 1) + 2 * (k * (d - 1))
  | 0 => by rw [Nat.add_zero, tri_low d (Nat.le_refl _)]; simp
  | k + 1 => by
    have ih := tri_high hd k
    rw [← Nat.add_assoc, tri]
    have e : min (d + k) (d - 1) = d - 1 := by omega
    rw [e]
    push_cast
    have e2 : (((d - 1 : Nat)) : Int) = (d : Int) - 1 := by omega
    rw [e2, Int.mul_add, ih, Int.add_mul]
    omega
theorem tri_pby {n d : Nat} (h1 : 1 ≤ d) (h2 : d ≤ n) : (tri d n : Int) = pby n d := by
  obtain ⟨k, rfl⟩ : ∃ k, n = d + k := ⟨n - d, by omega⟩
  have h := tri_high h1 k
  have h0 := tri_low (d := d) d (Nat.le_refl _)
  unfold pby
  have e : min ((d + k : Nat) : Int) (d : Int) = d := by omega
  rw [e, fdiv2_of h0]
  have e2 : ((d + k : Nat) : Int) - d = k := by omega
  rw [e2]
  omega
theorem pairs_le {L : List (Int × Int)} (hle : ∀ p ∈ L, p.1 ≤ p.2) (hne : L ≠ []) : ∀ d : Int, dep L ≤ d → d ≤ L.length → mpL L ≤ pby L.length d := fun d h1 h2 => by
  obtain ⟨p, hp, e⟩ := dep_at hle hne
  have h3 := cnt_pos hle hp
  obtain ⟨k, rfl⟩ : ∃ k : Nat, d = k := ⟨d.toNat, by omega⟩
  rw [mp_prc, ← tri_pby (by omega) (by omega)]
  have := prc_tri (d := k) L.length L rfl hle fun x => Int.le_trans (dep_ge hle x) h1
  omega
end CS
set_option Elab.async false
set_option linter.all false
set_option maxRecDepth 100000
set_option maxHeartbeats 4000000
set_option autoImplicit false
namespace CS
open PySem PySem.Spec PyProof.Rows L2
/-! ### by ends -/
theorem ord_mem {L : List (Int × Int)} {p : Int × Int} (h : p ∈ L) : ∃ q ∈ ord L, q.1 = p := by
  obtain ⟨i, hi, e⟩ := List.mem_iff_getElem.mp h
  refine ⟨(p, i), List.mem_mergeSort.mpr (List.mk_mem_zipIdx_iff_getElem?.mpr ?_), rfl⟩
  rw [List.getElem?_eq_getElem hi, e]
theorem ord_pair (L : List (Int × Int)) : (ord L).Pairwise fun a b => a.1.2 ≤ b.1.2 := by
  have h : (ord L).Pairwise fun a b => leQ a b = true := List.pairwise_mergeSort (le := leQ) (fun a b c => leII_trans (keyQ a) (keyQ b) (keyQ c)) (fun a b => leII_total (keyQ a) (keyQ b)) _
  refine h.imp fun {a b} hab => ?_
  unfold leQ leII keyQ at hab
  simp at hab
  omega
theorem ord_ne {L : List (Int × Int)} (h : L ≠ []) : ord L ≠ [] := fun e => by
  have := ord_len L
  rw [e] at this
  exact h (List.length_eq_zero_iff.mp this.symm)
/-! ### apart -/
theorem apS_last (f : List Rq) (q : Rq) : ∃ l, (apS f q).getLast? = some l ∧ q.1.1 ≤ max l.1.2 q.1.1 ∧ (l = q ∨ f.getLast? = some l) := by
  unfold apS
  split
  · exact ⟨q, by simp, by omega, .inl rfl⟩
  · rename_i l hl
    split
    · exact ⟨q, by simp, by omega, .inl rfl⟩
    · exact ⟨l, hl, by omega, .inr hl⟩
theorem ap_pre : ∀ (os : List Rq) (f : List Rq), ∃ g, os.foldl apS f = f ++ g
  | [], f => ⟨[], by simp⟩
  | o :: os, f => by
    obtain ⟨g, e⟩ := ap_pre os (apS f o)
    rw [List.foldl_cons, e]
    unfold apS
    split
    · exact ⟨o :: g, by simp⟩
    · split
      · exact ⟨o :: g, by simp⟩
      · exact ⟨g, rfl⟩
/-- each range begins ahead of the end of one that is taken, or is taken -/
theorem ap_cover : ∀ (os f : List Rq) (q : Rq), q ∈ os → q.1.1 ≤ q.1.2 → ∃ l ∈ os.foldl apS f, q.1.1 ≤ l.1.2
  | o :: os, f, q, hq, hle => by
    rcases List.mem_cons.mp hq with rfl | hq
    · obtain ⟨g, e⟩ := ap_pre os (apS f q)
      rw [List.foldl_cons, e]
      unfold apS
      split
      · exact ⟨q, by simp, hle⟩
      · rename_i l hl
        split
        · exact ⟨q, by simp, hle⟩
        · exact ⟨l, List.mem_append_left _ (List.mem_of_getLast? hl), by omega⟩
    · rw [List.foldl_cons]
      exact ap_cover os (apS f o) q hq hle
theorem ap_first {L : List (Int × Int)} (hne : L ≠ []) : ∃ q0 g, apL L = q0 :: g ∧ q0 ∈ ord L ∧ ∀ p ∈ L, q0.1.2 ≤ p.2 := by
  have h := ord_pair L
  unfold apL
  cases e : ord L with
  | nil => exact absurd e (ord_ne hne)
  | cons q0 os =>
    obtain ⟨g, eg⟩ := ap_pre os [q0]
    refine ⟨q0, g, ?_, List.mem_cons_self, fun p hp => ?_⟩
    · rw [List.foldl_cons]
      exact eg
    · obtain ⟨q, hq, rfl⟩ := ord_mem hp
      rw [e] at h hq
      rw [List.pairwise_cons] at h
      rcases List.mem_cons.mp hq with rfl | hq
      · exact Int.le_refl _
      · exact h.1 q hq
theorem ap_pos {L : List (Int × Int)} (hne : L ≠ []) : 1 ≤ (apL L).length := by
  obtain ⟨q0, g, e, _⟩ := ap_first hne
  rw [e, List.length_cons]
  omega
/-- two that do not meet: at least two are taken -/
theorem ap_two {L : List (Int × Int)} (hle : ∀ p ∈ L, p.1 ≤ p.2) {a b : Int × Int} (ha : a ∈ L) (hb : b ∈ L) (h : a.2 < b.1) : 1 < (apL L).length := by
  obtain ⟨q0, g, e, _, hm⟩ := ap_first (List.ne_nil_of_mem ha)
  obtain ⟨q, hq, rfl⟩ := ord_mem hb
  obtain ⟨l, hl, hc⟩ := ap_cover (ord L) [] q hq (hle _ hb)
  have hl : l ∈ apL L := hl
  have h0 := hm a ha
  rw [e] at hl ⊢
  cases g with
  | nil =>
    rw [List.mem_singleton.mp hl] at hc
    omega
  | cons x g => simp
/-- all meet: one is taken -/
theorem ap_one {L : List (Int × Int)} (hne : L ≠ []) (h : ∀ a ∈ L, ∀ b ∈ L, b.1 ≤ a.2) : (apL L).length = 1 := by
  have hmem : ∀ q ∈ ord L, q.1 ∈ L := fun q hq => List.mem_of_getElem? (ord_get hq)
  unfold apL
  cases e : ord L with
  | nil => exact absurd e (ord_ne hne)
  | cons q0 os =>
    have key : ∀ os : List Rq, (∀ q ∈ os, q.1.1 ≤ q0.1.2) → os.foldl apS [q0] = [q0] := by
      intro os
      induction os with
      | nil => intro _; rfl
      | cons o os ih =>
        intro ho
        have h1 := ho o List.mem_cons_self
        have e1 : apS [q0] o = [q0] := by
          show (if q0.1.2 < o.1.1 then [q0] ++ [o] else [q0]) = [q0]
          rw [if_neg (by omega)]
        rw [List.foldl_cons, e1]
        exact ih fun q hq => ho q (List.mem_cons_of_mem _ hq)
    rw [List.foldl_cons, show apS [] q0 = [q0] from rfl, key os fun q hq => h _ (hmem q0 (by rw [e]; simp)) _ (hmem q (by rw [e]; simp [hq]))]
    rfl
/-! ### rooms -/
structure RmI (r : Int) (pre : List Rq) : Prop where
  mem : ∀ e ∈ (pre.foldl (rmS r) ([], 0)).1, ∃ q ∈ pre, e = q.1.2
  cnt : (((pre.foldl (rmS r) ([], 0)).1.length : Int) + (pre.foldl apS []).length ≤ (pre.foldl (rmS r) ([], 0)).2) ∨
    (((pre.foldl (rmS r) ([], 0)).1.length : Int) + (pre.foldl apS []).length ≤ (pre.foldl (rmS r) ([], 0)).2 + 1 ∧ ∃ l, (pre.foldl apS []).getLast? = some l ∧ ∃ e ∈ (pre.foldl (rmS r) ([], 0)).1, e ≤ l.1.2)
  all : (pre.foldl (rmS r) ([], 0)).2 = pre.length ∨ r ≤ ((pre.foldl (rmS r) ([], 0)).1.length : Int)
theorem rm_inv {r : Int} (hr : 1 ≤ r) {os : List Rq} (hs : os.Pairwise fun a b => a.1.2 ≤ b.1.2) : ∀ (pre post : List Rq), os = pre ++ post → RmI r pre → RmI r os
  | pre, [], h, i => by rw [h, List.append_nil]; exact i
  | pre, q :: post, h, i => by
    refine rm_inv hr hs (pre ++ [q]) post (by rw [h]; simp) ?_
    rw [h, List.pairwise_append] at hs
    obtain ⟨i1, i2, i3⟩ := i
    have hE : ∀ e ∈ (pre.foldl (rmS r) ([], 0)).1, e ≤ q.1.2 := fun e he => by
      obtain ⟨x, hx, rfl⟩ := i1 e he
      exact hs.2.2 x hx q List.mem_cons_self
    have e1 : (pre ++ [q]).foldl (rmS r) ([], 0) = rmS r (pre.foldl (rmS r) ([], 0)) q := by rw [List.foldl_append]; rfl
    have e2 : (pre ++ [q]).foldl apS [] = apS (pre.foldl apS []) q := by rw [List.foldl_append]; rfl
    have hlen : ((pre ++ [q]).length : Int) = pre.length + 1 := by simp
    suffices hgoal : (∀ e ∈ (rmS r (pre.foldl (rmS r) ([], 0)) q).1, e = q.1.2 ∨ e ∈ (pre.foldl (rmS r) ([], 0)).1) ∧
        ((((rmS r (pre.foldl (rmS r) ([], 0)) q).1.length : Int) + (apS (pre.foldl apS []) q).length ≤ (rmS r (pre.foldl (rmS r) ([], 0)) q).2) ∨
        (((rmS r (pre.foldl (rmS r) ([], 0)) q).1.length : Int) + (apS (pre.foldl apS []) q).length ≤ (rmS r (pre.foldl (rmS r) ([], 0)) q).2 + 1 ∧ ∃ l, (apS (pre.foldl apS []) q).getLast? = some l ∧ ∃ e ∈ (rmS r (pre.foldl (rmS r) ([], 0)) q).1, e ≤ l.1.2)) ∧
        ((rmS r (pre.foldl (rmS r) ([], 0)) q).2 = pre.length + 1 ∨ r ≤ ((rmS r (pre.foldl (rmS r) ([], 0)) q).1.length : Int)) by
      obtain ⟨g1, g2, g3⟩ := hgoal
      refine ⟨fun e he => ?_, ?_, ?_⟩
      · rw [e1] at he
        rcases g1 e he with rfl | he
        · exact ⟨q, by simp, rfl⟩
        · obtain ⟨x, hx, h⟩ := i1 e he
          exact ⟨x, List.mem_append_left _ hx, h⟩
      · rw [e1, e2]; exact g2
      · rw [e1, hlen]; exact g3
    clear e1 e2 i1 hlen h hs
    generalize pre.foldl (rmS r) ([], 0) = s at *
    generalize pre.foldl apS [] = f at *
    obtain ⟨E, c⟩ := s
    simp only at *
    unfold rmS
    simp only
    by_cases hf : (E.filter fun e => decide (e < q.1.1)) ≠ []
    · rw [if_pos hf]
      have hm := mxI_mem hf
      have hm1 : mxI (E.filter fun e => decide (e < q.1.1)) ∈ E := (List.mem_filter.mp hm).1
      have hm2 : mxI (E.filter fun e => decide (e < q.1.1)) < q.1.1 := of_decide_eq_true (List.mem_filter.mp hm).2
      have hel := List.length_erase_of_mem hm1
      have hpos := List.length_pos_of_mem hm1
      generalize mxI (E.filter fun e => decide (e < q.1.1)) = m at *
      have hl : ((E.erase m ++ [q.1.2]).length : Int) = E.length := by
        rw [List.length_append, hel, List.length_singleton]
        omega
      refine ⟨fun e he => ?_, ?_, ?_⟩
      · rcases List.mem_append.mp he with he | he
        · exact .inr (List.mem_of_mem_erase he)
        · exact .inl (List.mem_singleton.mp he)
      · rw [hl]
        unfold apS
        split
        · rename_i hn
          have hfn : f = [] := List.getLast?_eq_none_iff.mp hn
          subst hfn
          refine .inr ⟨?_, q, by simp, q.1.2, by simp, Int.le_refl _⟩
          simp only [List.length_append, List.length_singleton, List.length_nil] at *
          rcases i2 with i2 | ⟨i2, l, hl, _⟩
          · omega
          · cases hl
        · rename_i l hl'
          split
          · refine .inr ⟨?_, q, by simp, q.1.2, by simp, Int.le_refl _⟩
            simp only [List.length_append, List.length_singleton] at *
            rcases i2 with i2 | ⟨i2, _⟩ <;> omega
          · refine .inl ?_
            rcases i2 with i2 | ⟨i2, _⟩ <;> omega
      · rw [hl]
        rcases i3 with i3 | i3
        · exact .inl (by omega)
        · exact .inr i3
    · rw [if_neg hf]
      have hf : (E.filter fun e => decide (e < q.1.1)) = [] := Decidable.byContradiction hf
      have hge : ∀ e ∈ E, q.1.1 ≤ e := fun e he => by
        have := List.filter_eq_nil_iff.mp hf e he
        simp at this
        exact this
      by_cases hr2 : (E.length : Int) < r
      · rw [if_pos hr2]
        have hl : ((E ++ [q.1.2]).length : Int) = E.length + 1 := by simp
        refine ⟨fun e he => ?_, ?_, ?_⟩
        · rcases List.mem_append.mp he with he | he
          · exact .inr he
          · exact .inl (List.mem_singleton.mp he)
        · rw [hl]
          unfold apS
          split
          · rename_i hn
            have hfn : f = [] := List.getLast?_eq_none_iff.mp hn
            subst hfn
            refine .inr ⟨?_, q, by simp, q.1.2, by simp, Int.le_refl _⟩
            simp only [List.length_append, List.length_singleton, List.length_nil] at *
            rcases i2 with i2 | ⟨i2, l, hl, _⟩
            · omega
            · cases hl
          · rename_i l hl'
            split
            · rename_i hlt
              refine .inr ⟨?_, q, by simp, q.1.2, by simp, Int.le_refl _⟩
              simp only [List.length_append, List.length_singleton] at *
              rcases i2 with i2 | ⟨i2, l2, hl2, e, he, hle⟩
              · omega
              · rw [hl'] at hl2
                cases hl2
                have := hge e he
                omega
            · rcases i2 with i2 | ⟨i2, l2, hl2, e, he, hle⟩
              · exact .inl (by omega)
              · exact .inr ⟨by omega, l2, hl2, e, List.mem_append_left _ he, hle⟩
        · rw [hl]
          rcases i3 with i3 | i3
          · exact .inl (by omega)
          · exact .inr (by omega)
      · rw [if_neg hr2]
        have hE0 : E ≠ [] := fun e => by rw [e] at hr2; simp at hr2; omega
        refine ⟨fun e he => .inr he, ?_, .inr (by show r ≤ (E.length : Int); omega)⟩
        unfold apS
        split
        · rename_i hn
          have hfn : f = [] := List.getLast?_eq_none_iff.mp hn
          subst hfn
          obtain ⟨x, E', rfl⟩ := List.exists_cons_of_ne_nil hE0
          refine .inr ⟨?_, q, by simp, x, by simp, hE x (by simp)⟩
          simp only [List.length_append, List.length_singleton, List.length_nil] at *
          rcases i2 with i2 | ⟨i2, l, hl, _⟩
          · omega
          · cases hl
        · rename_i l hl'
          split
          · rename_i hlt
            obtain ⟨x, E', rfl⟩ := List.exists_cons_of_ne_nil hE0
            refine .inr ⟨?_, q, by simp, x, by simp, hE x (by simp)⟩
            simp only [List.length_append, List.length_singleton] at *
            rcases i2 with i2 | ⟨i2, l2, hl2, e, he, hle⟩
            · omega
            · rw [hl'] at hl2
              cases hl2
              have := hge e he
              omega
          · exact i2
theorem rm_ge {L : List (Int × Int)} {r : Int} (hr : 1 ≤ r) : (L.length : Int) ≤ rmL L r ∨ (apL L).length + r - 1 ≤ rmL L r := by
  obtain ⟨_, i2, i3⟩ := rm_inv hr (ord_pair L) [] (ord L) rfl ⟨fun e he => (by cases he), .inl (by simp), .inl rfl⟩
  unfold rmL apL
  rw [ord_len] at i3
  rcases i3 with i3 | i3
  · exact .inl (by omega)
  · refine .inr ?_
    rcases i2 with i2 | ⟨i2, _⟩ <;> omega
/-- one room -/
theorem rm_1 : ∀ (os : List Rq) (f : List Rq) (E : List Int) (c : Int), (f = [] ∧ E = [] ∧ c = 0) ∨ (∃ l, f.getLast? = some l ∧ E = [l.1.2] ∧ c = f.length) → (os.foldl (rmS 1) (E, c)).2 = ((os.foldl apS f).length : Int)
  | [], f, E, c, h => by
    rcases h with ⟨rfl, _, rfl⟩ | ⟨l, _, _, rfl⟩ <;> rfl
  | q :: os, f, E, c, h => by
    rw [List.foldl_cons, List.foldl_cons]
    refine rm_1 os (apS f q) (rmS 1 (E, c) q).1 (rmS 1 (E, c) q).2 (.inr ?_)
    rcases h with ⟨rfl, rfl, rfl⟩ | ⟨l, hl, rfl, rfl⟩
    · exact ⟨q, rfl, rfl, rfl⟩
    · by_cases hc : l.1.2 < q.1.1
      · have e1 : rmS 1 ([l.1.2], (f.length : Int)) q = ([q.1.2], (f.length : Int) + 1) := by
          unfold rmS
          simp [hc, List.filter_cons, mxI]
        have e2 : apS f q = f ++ [q] := by
          unfold apS
          rw [hl]
          simp only [hc, if_true]
        rw [e1, e2]
        exact ⟨q, by simp, rfl, by simp⟩
      · have e1 : rmS 1 ([l.1.2], (f.length : Int)) q = ([l.1.2], (f.length : Int)) := by
          unfold rmS
          simp [hc, List.filter_cons]
        have e2 : apS f q = f := by
          unfold apS
          rw [hl]
          simp only [hc, if_false]
        rw [e1, e2]
        exact ⟨l, hl, rfl, rfl⟩
theorem rm_ap (L : List (Int × Int)) : rmL L 1 = (apL L).length := rm_1 (ord L) [] [] 0 (.inl ⟨rfl, rfl, rfl⟩)
end CS
set_option Elab.async false
set_option linter.all false
set_option maxRecDepth 100000
set_option maxHeartbeats 4000000
set_option autoImplicit false
set_option exponentiation.threshold 400
namespace CS
open PySem PySem.Spec PyProof.Rows L2
/-! ### draws -/
def mtOf : Option (Fl × En) → Option (D × List D)
  | some (.rt (.d z), some (.m ys') :: _) => some (z, ys')
  | some (.nx, some (.m ys') :: _) => some (.none, ys')
  | _ => none
theorem mt_1 {z : D} {ys : List D} {ρ : En} : mtOf (some (.rt (.d z), some (.m ys) :: ρ)) = some (z, ys) := rfl
theorem fnM_eq {na nl : Nat} {s : SS} {ys xs : List D} (h : Nat.beq xs.length na = true) : fnM na nl s ys xs = mtOf (s (some (.m ys) :: (argE xs ++ List.replicate nl none))) := by
  unfold fnM
  rw [h]
  simp only
  unfold mtOf
  split <;> simp_all
theorem okPow3 {i : Int} (h : Sm i) : okPow i 3 = true := by
  have h1 : lg i ≤ 250 := h
  have h2 : (((lg i + 1 : Nat) : Int)) * 3 ≤ 134217728 := by omega
  have h3 : decide ((0 : Int) ≤ 3) = true := by decide
  unfold okPow
  rw [h3, decide_eq_true h2, Bool.and_self]
theorem gI_ok {c : Int → Int → Bool} {f : Int → Int → Int} {i j : Int} (h : c i j = true) : gI c f (.int i) (.int j) = some (.int (f i j)) := by
  unfold gI
  simp only [h]
theorem x_gPow3 {i : Int} (h : Sm i) : gPow (.int i) (.int 3) = some (.int (i ^ 3)) := gI_ok (c := okPow) (f := fun i j => i ^ j.toNat) (okPow3 h)
theorem x_fdivS {i j : Int} (h : j ≠ 0) (h2 : Sm j) : gFdiv (.int i) (.int j) = some (.int (i.fdiv j)) := by
  have h3 : lg j ≤ 250 := h2
  have h4 : lg j < 9000 := by omega
  have : okDiv i j = true := by
    unfold okDiv
    rw [decide_eq_true h, decide_eq_true h4, Bool.and_self]
  exact gI_ok (c := okDiv) (f := fun i j => i.fdiv j) this
/-- the state of the draws -/
def St (B : Int) (src : List D) : Prop := ∃ s0 s1 s2 : Int, src = [.int s0, .int s1, .int s2] ∧ 0 ≤ s0 ∧ 0 ≤ s1 ∧ s1 ≤ 10 ^ 48 ∧ 0 ≤ s2 ∧ s2 ≤ B
theorem fmod_in {a c : Int} (h : 1 ≤ c) : 0 ≤ a.fmod c ∧ a.fmod c < c := by
  rw [Int.fmod_eq_emod_of_nonneg _ (by omega)]
  exact ⟨Int.emod_nonneg _ (by omega), Int.emod_lt_of_pos _ (by omega)⟩
theorem setI3_0 (a b c x : D) : setI [a, b, c] (.int 0) x = some [x, b, c] := rfl
theorem setI3_2 (a b c x : D) : setI [a, b, c] (.int 2) x = some [a, b, x] := rfl
theorem atI3_2 (a b c : D) : atI [a, b, c] 2 = some c := rfl
theorem v_draw1 {s0 s1 s2 c : Int} (h0 : 0 < s0) (h1 : 1 ≤ c) (h2 : Sm c) : gm_law_draw [.int s0, .int s1, .int s2] [.int c] = some (.int (s0.fmod c), [.int (s0.fdiv c), .int s1, .int s2]) := by
  have hc : c ≠ 0 := by omega
  show fnM 1 2 s_law_draw _ _ = _
  rw [fnM_eq rfl]
  unfold s_law_draw
  simp -implicitDefEqProofs [eb, h0, hc, x_fdivS hc h2, setI3_0, mt_1]
theorem p39 : gPow (.int 10) (.int 39) = some (.int (10 ^ 39)) := by kernel_rfl
theorem p40 : gPow (.int 10) (.int 40) = some (.int (10 ^ 40)) := by kernel_rfl
theorem v_draw2 {s1 s2 c m1 m2 : Int} (h1 : 1 ≤ c) (h2 : Sm c) (a1 : Sm (s2 + 1)) (a2 : Sm (s1 + 900007 * (s2 + 1))) (e1 : (((s1 + 900007 * (s2 + 1)) ^ 3).fmod (10 ^ 39 + 3)) = m1) (a3 : Sm m1) (a4 : Sm (m1 * (s2 + 1) + 60013)) (e2 : ((m1 * (s2 + 1) + 60013) ^ 3).fmod (10 ^ 40 + 121) = m2) :
    gm_law_draw [.int 0, .int s1, .int s2] [.int c] = some (.int ((m2.fdiv 104729).fmod c), [.int 0, .int s1, .int (s2 + 1)]) := by
  have hc : c ≠ 0 := by omega
  have b0 : Sm 900007 := by decide
  have b1 : Sm 104729 := by decide
  have q1 : gMod (.int ((s1 + 900007 * (s2 + 1)) ^ 3)) (.int (10 ^ 39 + 3)) = some (.int m1) := by rw [x_gModI (by decide), e1]
  have q2 : gMod (.int ((m1 * (s2 + 1) + 60013) ^ 3)) (.int (10 ^ 40 + 121)) = some (.int m2) := by rw [x_gModI (by decide), e2]
  have q3 : gMul (.int 900007) (.int (s2 + 1)) = some (.int (900007 * (s2 + 1))) := x_gMulS b0 a1
  have q4 : gMul (.int m1) (.int (s2 + 1)) = some (.int (m1 * (s2 + 1))) := x_gMulS a3 a1
  have q5 := x_gPow3 a2
  have q6 := x_gPow3 a4
  have q7 := x_fdivS (i := m2) (j := 104729) (by decide) b1
  have t1 : gAdd (.int (10 ^ 39)) (.int 3) = some (.int (10 ^ 39 + 3)) := rfl
  have t2 : gAdd (.int (10 ^ 40)) (.int 121) = some (.int (10 ^ 40 + 121)) := rfl
  have t3 : gAdd (.int s1) (.int (900007 * (s2 + 1))) = some (.int (s1 + 900007 * (s2 + 1))) := rfl
  have p39 := p39
  have p40 := p40
  generalize (s1 + 900007 * (s2 + 1)) = u1 at *
  generalize (900007 * (s2 + 1)) = u2 at *
  generalize m1 * (s2 + 1) = u3 at *
  generalize u1 ^ 3 = u4 at *
  generalize (u3 + 60013) ^ 3 = u5 at *
  generalize (10 : Int) ^ 39 + 3 = u6 at *
  generalize (10 : Int) ^ 40 + 121 = u7 at *
  generalize (10 : Int) ^ 39 = u8 at *
  generalize (10 : Int) ^ 40 = u9 at *
  clear a1 a2 a3 a4 e1 e2 b0 b1
  show fnM 1 2 s_law_draw _ _ = _
  rw [fnM_eq rfl]
  unfold s_law_draw
  simp -implicitDefEqProofs [eb, atI3_2, hc, setI3_2, mt_1, q1, q2, q3, q4, q5, q6, q7, p39, p40, t1, t2, t3, -x_gAddI, x_gAddI (j := 1), x_gAddI (j := 60013), -x_gMulS]
theorem v_draw {B c : Int} {src : List D} (h : St B src) (hB : B ≤ 10 ^ 6) (h1 : 1 ≤ c) (h2 : Sm c) : ∃ (z : Int) (src' : List D), gm_law_draw src [.int c] = some (.int z, src') ∧ 0 ≤ z ∧ z < c ∧ St (B + 1) src' := by
  obtain ⟨s0, s1, s2, rfl, g0, g1, g2, g3, g4⟩ := h
  by_cases hz : 0 < s0
  · refine ⟨_, _, v_draw1 hz h1 h2, (fmod_in h1).1, (fmod_in h1).2, s0.fdiv c, s1, s2, rfl, ?_, g1, g2, g3, by omega⟩
    rw [Int.fdiv_eq_ediv_of_nonneg _ (by omega)]
    exact Int.ediv_nonneg g0 (by omega)
  · obtain rfl : s0 = 0 := by omega
    have f1 := fmod_in (a := (s1 + 900007 * (s2 + 1)) ^ 3) (c := 10 ^ 39 + 3) (by decide)
    have k1 : (((s1 + 900007 * (s2 + 1)) ^ 3).fmod (10 ^ 39 + 3)) * (s2 + 1) ≤ (10 ^ 39 + 3) * (10 ^ 6 + 1) := Int.mul_le_mul (by omega) (by omega) (by omega) (by decide)
    have k2 : 0 ≤ (((s1 + 900007 * (s2 + 1)) ^ 3).fmod (10 ^ 39 + 3)) * (s2 + 1) := Int.mul_nonneg f1.1 (by omega)
    refine ⟨_, _, v_draw2 h1 h2 (Sm_of (by omega) (by omega)) (Sm_of (by omega) (by omega)) rfl (Sm_of (by omega) (by omega)) (Sm_of (by omega) (by omega)) rfl, (fmod_in h1).1, (fmod_in h1).2, 0, s1, s2 + 1, rfl, by omega, g1, g2, by omega, by omega⟩
end CS
set_option Elab.async false
set_option linter.all false
set_option maxRecDepth 100000
set_option maxHeartbeats 4000000
set_option autoImplicit false
set_option exponentiation.threshold 400
namespace CS
open PySem PySem.Spec PyProof.Rows L2
noncomputable def s_span : SS := (sSq (sA 5 (e2 gSub (eCM gm_law_draw 0 (eAc (e2 gAdd (e2 gMul (ep (.int 2)) (eV 2)) (ep (.int 1))) eAn)) (eV 2)))
  (sSq (sA 6 (e2 gIx (eL (eAs gLs (eAc (eCM gm_law_draw 0 (eAc (e2 gAdd (e2 gMul (ep (.int 2)) (eV 2)) (ep (.int 1))) eAn)) (eAc (eCM gm_law_draw 0 (eAc (ep (.int 3)) eAn)) (eAc (ep (.int 0)) (eAc (eV 2) eAn)))))) (eCM gm_law_draw 0 (eAc (ep (.int 4)) eAn))))
  (sSq (sPar [7, 8] [(Itm.e (eAs gTp (eAc (eV 5) (eAc (e2 gAdd (eV 5) (eV 6)) eAn)))), (Itm.e (eCM gm_law_draw 0 (eAc (ep (.int 6)) eAn)))])
  (sSq (sIf (eAnd (eT (e2L gNe 3 (eL (eAs gLs eAn)))) (eT (e2 gGt (eV 8) (ep (.int 2))))) (sSq (sA 9 (e2L gIx 3 (eCM gm_law_draw 0 (eAc (e1 gLen (eMb 3)) eAn))))
  (sA 7 (e2 gIx (eL (eAs gLs (eAc (eV 9) (eAc (eAs gTp (eAc (e2 gIx (eV 9) (ep (.int 0))) (eAc (e2 gAdd (e2 gIx (eV 9) (ep (.int 0))) (eV 6)) eAn))) (eAc (eAs gTp (eAc (e2 gSub (e2 gIx (eV 9) (ep (.int 1))) (eV 6)) (eAc (e2 gIx (eV 9) (ep (.int 1))) eAn))) eAn))))) (e2 gSub (eV 8) (ep (.int 3)))))) sNx)
  (sE (eGrow 3 (eb (eV 7) fun x => ep [x])))))))
/-- ranges of numbers to M -/
def Bd1 (M : Int) (p : Int × Int) : Prop := p.1 ≤ p.2 ∧ -M ≤ p.1 ∧ p.2 ≤ M
theorem shp_rgs (f : List (Int × Int)) : shp (.list (f.map rg)) = true := by
  have hd : PyData.depthAll (f.map rg) ≤ 1 := by
    induction f with
    | nil => simp [PyData.depthAll]
    | cons a f ih =>
      show PyData.depthAll (rg a :: f.map rg) ≤ 1
      rw [PyData.depthAll]
      have : (rg a).depth ≤ 1 := Nat.le_of_ble_eq_true rfl
      omega
  unfold shp SeqAt.shaped
  rw [Bool.and_eq_true]
  refine ⟨lay_all rg (fun _ => rfl) f, decide_eq_true ?_⟩
  rw [PyData.depth]
  omega
theorem gNe_rgs (f : List (Int × Int)) : gNe (.list (f.map rg)) (.list []) = some (.bool (!f.isEmpty)) := by
  unfold gNe
  rw [shp_rgs, show shp (.list []) = true from by kernel_rfl]
  cases f <;> rfl
theorem gSub_i {i j : Int} : gSub (.int i) (.int j) = some (.int (i - j)) := rfl
theorem v_span {B W M : Int} {src : List D} {f : List (Int × Int)} {y1 : D} {o4 o5 o6 o7 o8 o9 : Option D} (hs : St B src) (hB : B + 6 ≤ 10 ^ 6) (hW : 1 ≤ W) (hW2 : W ≤ 10 ^ 30) (hM : 3 * W ≤ M) (hf : ∀ p ∈ f, Bd1 M p) (hl : f.length ≤ 100) :
    ∃ src' p u5 u6 u7 u8 u9, St (B + 6) src' ∧ Bd1 (M + 2 * W) p ∧ s_span [some (.m src), some (.d y1), some (.d (.int W)), some (.m (f.map rg)), Od o4, Od o5, Od o6, Od o7, Od o8, Od o9] =
      some (.nx, [some (.m src'), some (.d y1), some (.d (.int W)), some (.m ((f ++ [p]).map rg)), Od o4, Od u5, Od u6, Od u7, Od u8, Od u9]) := by
  have sW : Sm W := Sm_of (by omega) (by omega)
  have sW2 : Sm (2 * W + 1) := Sm_of (by omega) (by omega)
  have hl2 : f.length + 1 ≤ 16777216 := by omega
  have s3 : Sm 3 := by decide
  have s4 : Sm 4 := by decide
  have s6 : Sm 6 := by decide
  obtain ⟨z1, c1, d1, l1, r1, t1⟩ := v_draw hs (by omega) (c := 2 * W + 1) (by omega) sW2
  obtain ⟨z2, c2, d2, l2, r2, t2⟩ := v_draw t1 (by omega) (c := 2 * W + 1) (by omega) sW2
  obtain ⟨z3, c3, d3, l3, r3, t3⟩ := v_draw t2 (by omega) (c := 3) (by omega) s3
  obtain ⟨z4, c4, d4, l4, r4, t4⟩ := v_draw t3 (by omega) (c := 4) (by omega) s4
  obtain ⟨z5, c5, d5, l5, r5, t5⟩ := v_draw t4 (by omega) (c := 6) (by omega) s6
  have hln : ∃ ln, 0 ≤ ln ∧ ln ≤ 2 * W ∧ gIx (.list [.int z2, .int z3, .int 0, .int W]) (.int z4) = some (.int ln) := by
    have : z4 = 0 ∨ z4 = 1 ∨ z4 = 2 ∨ z4 = 3 := by omega
    rcases this with rfl | rfl | rfl | rfl
    · exact ⟨z2, l2, by omega, rfl⟩
    · exact ⟨z3, l3, by omega, rfl⟩
    · exact ⟨0, by omega, by omega, rfl⟩
    · exact ⟨W, by omega, by omega, rfl⟩
  obtain ⟨ln, n1, n2, n3⟩ := hln
  have q1 : gMul (.int 2) (.int W) = some (.int (2 * W)) := x_gMulS Sm_2 sW
  have q2 : gAdd (.int (2 * W)) (.int 1) = some (.int (2 * W + 1)) := rfl
  have q3 := gNe_rgs f
  have g1 := @gSub_i
  have hB6 : B + 1 + 1 + 1 + 1 + 1 + 1 = B + 6 := by omega
  by_cases hc : f.isEmpty = false ∧ 2 < z5
  · obtain ⟨hc1, hc2⟩ := hc
    have hfl : 0 < f.length := by
      cases f with
      | nil => cases hc1
      | cons _ _ => simp
    obtain ⟨z6, c6, d6, l6, r6, t6⟩ := v_draw t5 (by omega) (c := (f.length : Int)) (by omega) (Sm_of (by omega) (by omega))
    obtain ⟨k, rfl⟩ : ∃ k : Nat, z6 = k := ⟨z6.toNat, by omega⟩
    have hk : k < f.length := by omega
    have hb := hf (f[k]'hk) (List.getElem_mem hk)
    have q4 : gIx (.list (f.map rg)) (.int (k : Int)) = some (rg (f[k]'hk)) := by
      rw [x_ixL, atI_ofNat, List.getElem?_map, List.getElem?_eq_getElem hk]
      rfl
    have q5 : gLen (.list (f.map rg)) = some (.int (f.length : Int)) := by simp
    generalize f[k]'hk = one at *
    obtain ⟨b1, b2, b3⟩ := hb
    have hp : ∃ p, Bd1 (M + 2 * W) p ∧ gIx (.list [rg one, .tuple [.int one.1, .int (one.1 + ln)], .tuple [.int (one.2 - ln), .int one.2]]) (.int (z5 - 3)) = some (rg p) := by
      have : z5 = 3 ∨ z5 = 4 ∨ z5 = 5 := by omega
      rcases this with rfl | rfl | rfl
      · exact ⟨one, ⟨b1, by omega, by omega⟩, rfl⟩
      · exact ⟨(one.1, one.1 + ln), ⟨by show one.1 ≤ one.1 + ln; omega, by show -(M + 2 * W) ≤ one.1; omega, by show one.1 + ln ≤ M + 2 * W; omega⟩, rfl⟩
      · exact ⟨(one.2 - ln, one.2), ⟨by show one.2 - ln ≤ one.2; omega, by show -(M + 2 * W) ≤ one.2 - ln; omega, by show one.2 ≤ M + 2 * W; omega⟩, rfl⟩
    obtain ⟨p, hp1, hp2⟩ := hp
    rw [hc1] at q3
    rw [x_ixL] at n3 hp2 q4
    unfold rg at hp2
    refine ⟨c6, p, some (.int (z1 - W)), some (.int ln), some (rg p), some (.int z5), some (rg one), hB6 ▸ t6, hp1, ?_⟩
    unfold s_span
    simp -implicitDefEqProofs [eb, q1, q2, d1, d2, d3, d4, n3, d5, q3, hc2, q4, d6, hp2, rg, hl2]
  · refine ⟨c5, (z1 - W, z1 - W + ln), some (.int (z1 - W)), some (.int ln), some (rg (z1 - W, z1 - W + ln)), some (.int z5), o9, ?_, ⟨by show z1 - W ≤ z1 - W + ln; omega, by show -(M + 2 * W) ≤ z1 - W; omega, by show z1 - W + ln ≤ M + 2 * W; omega⟩, ?_⟩
    · obtain ⟨a0, a1, a2, e, x1, x2, x3, x4, x5⟩ := t5
      exact ⟨a0, a1, a2, e, x1, x2, x3, x4, by omega⟩
    · unfold s_span
      rw [x_ixL] at n3
      cases he : f.isEmpty with
      | true =>
        rw [he] at q3
        simp -implicitDefEqProofs [eb, q1, q2, d1, d2, d3, d4, n3, d5, q3, rg, hl2]
      | false =>
        have hz : ¬ 2 < z5 := fun h => hc ⟨he, h⟩
        rw [he] at q3
        simp -implicitDefEqProofs [eb, q1, q2, d1, d2, d3, d4, n3, d5, q3, hz, rg, hl2]
end CS
set_option Elab.async false
set_option linter.all false
set_option maxRecDepth 100000
set_option maxHeartbeats 4000000
set_option autoImplicit false
set_option exponentiation.threshold 400
namespace CS
open PySem PySem.Spec PyProof.Rows L2
theorem rgD_nt : ∀ (n a : Nat), rgD (a : Int) n = (rgN a n).map nt
  | 0, a => rfl
  | n + 1, a => by
    rw [rgD, rgN, List.map_cons, ← rgD_nt n (a + 1)]
    rfl
theorem rgN_len : ∀ (n a : Nat), (rgN a n).length = n
  | 0, a => rfl
  | n + 1, a => by rw [rgN, List.length_cons, rgN_len n (a + 1)]
theorem in62_small {i : Int} (h1 : -1000 ≤ i) (h2 : i ≤ 1000) : in62 i = true := by
  unfold in62
  rw [Bool.and_eq_true]
  exact ⟨decide_eq_true (by omega), decide_eq_true (by omega)⟩
theorem rng1_of {i : Int} (h : in62 i = true) : rng1 [.int i] = some (rgD 0 i.toNat) := by
  unfold rng1
  simp only [h]
theorem rng1_nt {n : Nat} (h : n ≤ 1000) : rng1 [.int (n : Int)] = some ((rgN 0 n).map nt) := by
  rw [rng1_of (in62_small (by omega) (by omega)), ← rgD_nt]
  rfl
theorem rng2_of {i j : Int} (h : in62 i = true) (h2 : in62 j = true) : rng2 [.int i, .int j] = some (rgD i (j - i).toNat) := by
  unfold rng2
  simp only [h, h2, Bool.and_self]
theorem rng2_nt {a b : Nat} (h : a ≤ 1000) (h2 : b ≤ 1000) : rng2 [.int (a : Int), .int (b : Int)] = some ((rgN a (b - a)).map nt) := by
  rw [rng2_of (in62_small (by omega) (by omega)) (in62_small (by omega) (by omega)), rgD_nt, show ((b : Int) - a).toNat = b - a from by omega]
theorem Bd1_mono {M N : Int} {p : Int × Int} (h : Bd1 M p) (hm : M ≤ N) : Bd1 N p := ⟨h.1, by have := h.2.1; omega, by have := h.2.2; omega⟩
theorem St_mono {B C : Int} {src : List D} (h : St B src) (hm : B ≤ C) : St C src := by
  obtain ⟨a0, a1, a2, e, x1, x2, x3, x4, x5⟩ := h
  exact ⟨a0, a1, a2, e, x1, x2, x3, x4, by omega⟩
theorem v_spansL {B W : Int} {src : List D} {many : Nat} {y1 : D} (hs : St B src) (hB : B + 6 * many ≤ 10 ^ 6) (hW : 1 ≤ W) (hW2 : W ≤ 10 ^ 30) (hm : many ≤ 20) :
    ∃ (src' : List D) (f : List (Int × Int)) (u4 u5 u6 u7 u8 u9 : Option D), f.length = many ∧ (∀ p ∈ f, Bd1 (50 * W) p) ∧ St (B + 6 * many) src' ∧ forL (bd 4) s_span ((rgN 0 many).map nt) [some (.m src), some (.d y1), some (.d (.int W)), some (.m []), none, none, none, none, none, none] =
      some (.nx, [some (.m src'), some (.d y1), some (.d (.int W)), some (.m (f.map rg)), Od u4, Od u5, Od u6, Od u7, Od u8, Od u9]) := by
  obtain ⟨ρ', e, src', f, u4, u5, u6, u7, u8, u9, g1, g2, g3, rfl⟩ := for_inv nt (b := bd 4) (s := s_span)
    (fun pre ρ => ∃ (src' : List D) (f : List (Int × Int)) (u4 u5 u6 u7 u8 u9 : Option D), f.length = pre.length ∧ (∀ p ∈ f, Bd1 (3 * W + 2 * W * pre.length) p) ∧ St (B + 6 * pre.length) src' ∧ ρ = [some (.m src'), some (.d y1), some (.d (.int W)), some (.m (f.map rg)), Od u4, Od u5, Od u6, Od u7, Od u8, Od u9]) (rgN 0 many)
    (ρ := [some (.m src), some (.d y1), some (.d (.int W)), some (.m []), none, none, none, none, none, none]) ⟨src, [], none, none, none, none, none, none, rfl, (fun p hp => by cases hp), by simpa using hs, rfl⟩ (fun pre a post ρ hz ⟨src', f, u4, u5, u6, u7, u8, u9, g1, g2, g3, hρ⟩ => by
      subst hρ
      have hpl : pre.length + 1 ≤ many := by
        have := congrArg List.length hz
        rw [rgN_len] at this
        simp at this
        omega
      have hnn : 0 ≤ 2 * W * (pre.length : Int) := Int.mul_nonneg (by omega) (by omega)
      obtain ⟨c, p, w5, w6, w7, w8, w9, k1, k2, k3⟩ := v_span (y1 := y1) (o4 := some (nt a)) (o5 := u5) (o6 := u6) (o7 := u7) (o8 := u8) (o9 := u9) g3 (by omega) hW hW2 (M := 3 * W + 2 * W * pre.length) (by omega) g2 (by omega)
      refine ⟨[some (.m src'), some (.d y1), some (.d (.int W)), some (.m (f.map rg)), Od (some (nt a)), Od u5, Od u6, Od u7, Od u8, Od u9], _, by simp -implicitDefEqProofs, k3, c, f ++ [p], some (nt a), w5, w6, w7, w8, w9, by simp [g1], ?_, ?_, rfl⟩
      · have e1 : 2 * W * ((pre ++ [a]).length : Int) = 2 * W * (pre.length : Int) + 2 * W := by
          rw [List.length_append, List.length_singleton]
          push_cast
          rw [Int.mul_add, Int.mul_one]
        intro x hx
        rcases List.mem_append.mp hx with hx | hx
        · exact Bd1_mono (g2 x hx) (by omega)
        · rw [List.mem_singleton.mp hx]
          exact Bd1_mono k2 (by omega)
      · refine St_mono k1 ?_
        rw [List.length_append, List.length_singleton]
        push_cast
        omega)
  rw [rgN_len] at g1 g2 g3
  refine ⟨src', f, u4, u5, u6, u7, u8, u9, g1, fun p hp => Bd1_mono (g2 p hp) ?_, g3, e⟩
  have : 2 * W * (many : Int) ≤ 2 * W * 20 := Int.mul_le_mul_of_nonneg_left (by omega) (by omega)
  omega
theorem q_spans {src src' : List D} {W n : Int} {is fs : List D} {u4 u5 u6 u7 u8 u9 : Option D} (hr : rng1 [.int n] = some is) (e : forL (bd 4) s_span is [some (.m src), some (.d (.int n)), some (.d (.int W)), some (.m []), none, none, none, none, none, none] =
      some (.nx, [some (.m src'), some (.d (.int n)), some (.d (.int W)), some (.m fs), Od u4, Od u5, Od u6, Od u7, Od u8, Od u9])) : gm_law_spans src [.int n, .int W] = some (.list fs, src') := by
  unfold s_span at e
  show fnM 2 7 s_law_spans _ _ = _
  rw [fnM_eq rfl]
  unfold s_law_spans
  simp -implicitDefEqProofs [hr, e, mt_1]
theorem v_spans {B W : Int} {src : List D} {many : Nat} (hs : St B src) (hB : B + 6 * many ≤ 10 ^ 6) (hW : 1 ≤ W) (hW2 : W ≤ 10 ^ 30) (hm : many ≤ 20) :
    ∃ L src', gm_law_spans src [.int (many : Int), .int W] = some (rgs L, src') ∧ L.length = many ∧ (∀ p ∈ L, Bd1 (50 * W) p) ∧ St (B + 6 * many) src' := by
  obtain ⟨src', f, u4, u5, u6, u7, u8, u9, g1, g2, g3, e⟩ := v_spansL (y1 := .int (many : Int)) hs hB hW hW2 hm
  exact ⟨f, src', q_spans (rng1_nt (by omega)) e, g1, g2, g3⟩
end CS
set_option Elab.async false
set_option linter.all false
set_option maxRecDepth 100000
set_option maxHeartbeats 4000000
set_option autoImplicit false
set_option exponentiation.threshold 400
namespace CS
open PySem PySem.Spec PyProof.Rows L2
/-! ### the pairs that do not meet, as the law gathers them -/
noncomputable def s_due2 : SS := sIf (eT (e2 gEq (eAs gm_depth_of (eAc (eL (eAs gLs (eAc (e2 gIx (eV 0) (eV 5)) (eAc (e2 gIx (eV 0) (eV 6)) eAn)))) eAn)) (ep (.int 1)))) (sE (eGrow 4 (eb (eL (eAs gLs (eAc (eV 5) (eAc (eV 6) eAn)))) fun x => ep [x]))) sNx
noncomputable def s_due1 : SS := sFor (eAs rng2 (eAc (e2 gAdd (eV 5) (ep (.int 1))) (eAc (eV 2) eAn))) (bd 6) s_due2
theorem gEq_i (i j : Int) : gEq (.int i) (.int j) = some (.bool (i == j)) := by
  have h1 : shp (.int i) = true := by kernel_rfl
  have h2 : shp (.int j) = true := by kernel_rfl
  unfold gEq
  simp only [h1, h2, Bool.and_self]
  rfl
theorem lt2 (i j : Nat) : PyData.list [nt i, nt j] = lt [i, j] := rfl
theorem rgs2 (a b : Int × Int) : PyData.list [rg a, rg b] = rgs [a, b] := rfl
theorem v_due2 {L : List (Int × Int)} (h : Rgs L) {f : List (List Nat)} {i j : Nat} {y1 y2 y3 : D} (hi : i < L.length) (hj : j < L.length) (hl : f.length ≤ 1000) :
    s_due2 [some (.d (rgs L)), some (.d y1), some (.d y2), some (.d y3), some (.m (f.map lt)), some (.d (nt i)), some (.d (nt j)), none, none, none, none, none] =
      some (.nx, [some (.d (rgs L)), some (.d y1), some (.d y2), some (.d y3), some (.m ((f ++ [[i, j]].filter (bad2 L)).map lt)), some (.d (nt i)), some (.d (nt j)), none, none, none, none, none]) := by
  have g1 : gIx (rgs L) (nt i) = some (rg (L[i]'hi)) := rgs_ix (List.getElem?_eq_getElem hi)
  have g2 : gIx (rgs L) (nt j) = some (rg (L[j]'hj)) := rgs_ix (List.getElem?_eq_getElem hj)
  have ha := h.le _ (List.getElem_mem hi)
  have hb := h.le _ (List.getElem_mem hj)
  have hbad : bad2 L [i, j] = !mt (L[i]'hi) (L[j]'hj) := by
    show (!mtAt L i j) = _
    unfold mtAt
    rw [List.getElem?_eq_getElem hi, List.getElem?_eq_getElem hj]
  have hd := dep_pair _ _ ha hb
  rw [← hbad] at hd
  have hr : Rgs [L[i]'hi, L[j]'hj] := ⟨by simp, by simp, fun p hp => by
    simp at hp
    rcases hp with rfl | rfl <;> assumption⟩
  have g3 := v_depth hr
  have g4 := gEq_i (dep [L[i]'hi, L[j]'hj]) 1
  have hf : f.length + 1 ≤ 16777216 := by omega
  rw [show (dep [L[i]'hi, L[j]'hj] == 1) = bad2 L [i, j] from by rw [← hd]; rfl] at g4
  have r2 := rgs2 (L[i]'hi) (L[j]'hj)
  have l2 := lt2 i j
  generalize L[i]'hi = a at *
  generalize L[j]'hj = b at *
  generalize dep [a, b] = dd at *
  clear hd hbad
  generalize rgs L = R at *
  generalize nt i = ni at *
  generalize nt j = nj at *
  unfold s_due2
  cases hq : bad2 L [i, j] with
  | true =>
    rw [hq] at g4
    simp -implicitDefEqProofs [eb, g1, g2, r2, g3, g4, l2, hf, List.filter_cons, hq]
  | false =>
    rw [hq] at g4
    simp -implicitDefEqProofs [eb, g1, g2, r2, g3, g4, l2, hf, List.filter_cons, hq]
end CS
set_option Elab.async false
set_option linter.all false
set_option maxRecDepth 100000
set_option maxHeartbeats 4000000
set_option autoImplicit false
set_option exponentiation.threshold 400
namespace CS
open PySem PySem.Spec PyProof.Rows L2
def rowP (n i : Nat) : List (List Nat) := (rgN (i + 1) (n - (i + 1))).map fun j => [i, j]
theorem q_for {src : ES (List D)} {b : Bd} {s : SS} {ρ ρ1 : En} {xs : List D} (h : src ρ = some (xs, ρ1)) : sFor src b s ρ = forL b s xs ρ1 := by
  rw [x_sFor, h]
theorem q_src {y1 y3 R : D} {fs : List D} {i n : Int} {o6 : Option W} {xs : List D} (h : rng2 [.int (i + 1), .int n] = some xs) : eAs rng2 (eAc (e2 gAdd (eV 5) (ep (.int 1))) (eAc (eV 2) eAn)) [some (.d R), some (.d y1), some (.d (.int n)), some (.d y3), some (.m fs), some (.d (.int i)), o6, none, none, none, none, none] = some (xs, [some (.d R), some (.d y1), some (.d (.int n)), some (.d y3), some (.m fs), some (.d (.int i)), o6, none, none, none, none, none]) := by
  simp -implicitDefEqProofs [h]
theorem v_due1 {L : List (Int × Int)} (h : Rgs L) (h8 : L.length ≤ 8) {f : List (List Nat)} {i : Nat} {y1 y3 : D} {o6 : Option D} (hi : i < L.length) (hl : f.length ≤ 100) :
    ∃ u6, s_due1 [some (.d (rgs L)), some (.d y1), some (.d (.int (L.length : Int))), some (.d y3), some (.m (f.map lt)), some (.d (nt i)), Od o6, none, none, none, none, none] =
      some (.nx, [some (.d (rgs L)), some (.d y1), some (.d (.int (L.length : Int))), some (.d y3), some (.m ((f ++ (rowP L.length i).filter (bad2 L)).map lt)), some (.d (nt i)), Od u6, none, none, none, none, none]) := by
  have hr : rng2 [.int ((i : Int) + 1), .int (L.length : Int)] = some ((rgN (i + 1) (L.length - (i + 1))).map nt) := by
    have := rng2_nt (a := i + 1) (b := L.length) (by omega) (by omega)
    push_cast at this
    exact this
  obtain ⟨ρ', e, u6, rfl⟩ := for_inv nt (b := bd 6) (s := s_due2)
    (fun pre ρ => ∃ u6, ρ = [some (.d (rgs L)), some (.d y1), some (.d (.int (L.length : Int))), some (.d y3), some (.m ((f ++ (pre.map fun j => [i, j]).filter (bad2 L)).map lt)), some (.d (nt i)), Od u6, none, none, none, none, none]) (rgN (i + 1) (L.length - (i + 1)))
    (ρ := [some (.d (rgs L)), some (.d y1), some (.d (.int (L.length : Int))), some (.d y3), some (.m (f.map lt)), some (.d (nt i)), Od o6, none, none, none, none, none]) ⟨o6, by simp⟩ (fun pre a post ρ hz ⟨u6, hρ⟩ => by
      subst hρ
      have ha : a ∈ rgN (i + 1) (L.length - (i + 1)) := by rw [hz]; simp
      rw [rgN_mem] at ha
      have hpl : (f ++ (pre.map fun j => [i, j]).filter (bad2 L)).length ≤ 1000 := by
        have h1 := List.length_filter_le (bad2 L) (pre.map fun j => [i, j])
        have h2 := congrArg List.length hz
        rw [rgN_len] at h2
        simp at h1 h2
        rw [List.length_append]
        omega
      refine ⟨_, _, ?_, v_due2 (y1 := y1) (y2 := .int (L.length : Int)) (y3 := y3) h hi (j := a) (by omega) hpl, some (nt a), ?_⟩
      · simp -implicitDefEqProofs
      · have e9 : f ++ ((pre ++ [a]).map fun j => [i, j]).filter (bad2 L) = f ++ (pre.map fun j => [i, j]).filter (bad2 L) ++ [[i, a]].filter (bad2 L) := by
          rw [List.map_append, List.filter_append, List.append_assoc]
          rfl
        rw [e9]
        rfl)
  exact ⟨u6, (q_for (q_src (i := (i : Int)) hr)).trans e⟩
theorem prs_rows (n : Nat) : prs n = (rgN 0 n).flatMap (rowP n) := by
  unfold prs rowP
  rw [rgN_range]
theorem v_dueL {L : List (Int × Int)} (h : Rgs L) (h8 : L.length ≤ 8) {y1 y3 : D} :
    ∃ u5 u6, forL (bd 5) s_due1 ((rgN 0 L.length).map nt) [some (.d (rgs L)), some (.d y1), some (.d (.int (L.length : Int))), some (.d y3), some (.m []), none, none, none, none, none, none, none] =
      some (.nx, [some (.d (rgs L)), some (.d y1), some (.d (.int (L.length : Int))), some (.d y3), some (.m ((due L).map lt)), Od u5, Od u6, none, none, none, none, none]) := by
  obtain ⟨ρ', e, u5, u6, rfl⟩ := for_inv nt (b := bd 5) (s := s_due1)
    (fun pre ρ => ∃ u5 u6, ρ = [some (.d (rgs L)), some (.d y1), some (.d (.int (L.length : Int))), some (.d y3), some (.m (((pre.flatMap (rowP L.length)).filter (bad2 L)).map lt)), Od u5, Od u6, none, none, none, none, none]) (rgN 0 L.length)
    (ρ := [some (.d (rgs L)), some (.d y1), some (.d (.int (L.length : Int))), some (.d y3), some (.m []), none, none, none, none, none, none, none]) ⟨none, none, rfl⟩ (fun pre a post ρ hz ⟨u5, u6, hρ⟩ => by
      subst hρ
      have ha : a ∈ rgN 0 L.length := by rw [hz]; simp
      rw [rgN_mem] at ha
      have hpl : ((pre.flatMap (rowP L.length)).filter (bad2 L)).length ≤ 100 := by
        have h1 := List.length_filter_le (bad2 L) (pre.flatMap (rowP L.length))
        have h2 := congrArg List.length hz
        rw [rgN_len] at h2
        have h3 : ∀ l : List Nat, (l.flatMap (rowP L.length)).length ≤ l.length * 8 := by
          intro l
          induction l with
          | nil => simp
          | cons x l ih =>
            rw [List.flatMap_cons, List.length_append, List.length_cons]
            have : (rowP L.length x).length ≤ 8 := by
              unfold rowP
              rw [List.length_map, rgN_len]
              omega
            omega
        have := h3 pre
        simp at h2
        omega
      obtain ⟨w6, e1⟩ := v_due1 (y1 := y1) (y3 := y3) (o6 := u6) h h8 (i := a) (by omega) hpl
      refine ⟨_, _, ?_, e1, some (nt a), w6, ?_⟩
      · simp -implicitDefEqProofs
      · have e9 : ((pre ++ [a]).flatMap (rowP L.length)).filter (bad2 L) = (pre.flatMap (rowP L.length)).filter (bad2 L) ++ (rowP L.length a).filter (bad2 L) := by
          rw [List.flatMap_append, List.filter_append]
          simp
        rw [e9]
        rfl)
  refine ⟨u5, u6, ?_⟩
  rw [← prs_rows] at e
  exact e
end CS
set_option Elab.async false
set_option linter.all false
set_option maxRecDepth 100000
set_option maxHeartbeats 4000000
set_option autoImplicit false
set_option exponentiation.threshold 400
namespace CS
open PySem PySem.Spec PyProof.Rows L2
/-- the law's first part, over variables -/
theorem q_pr1 {S bb dcl sp : D} {gl is dls ap : List D} {n dp a mp nn hh dl la : Int} {am : Bool} {u5 u6 : Option D}
    (h0 : gm_boxes [.int 1] = some bb) (h1 : gLen S = some (.int n))
    (hg : eLc [8, 9] (eIs (eV 0)) (bdT 2 (bdCons (bd 8) (bdCons (bd 9) bdNil))) (ep true) (eL (eAs gLs (eAc (eAs gTp (eAc (ep (.int 0)) (eAc (eAs gTp (eAc (e2 gSub (ep (.int 0)) (eV 8)) (eAc (ep (.int 1)) eAn))) eAn))) (eAc (eAs gTp (eAc (ep (.int 1)) (eAc (eAs gTp (eAc (eV 9) (eAc (ep (.int 1)) eAn))) eAn))) eAn)))) [some (.d S), some (.d bb), some (.d (.int n)), none, none, none, none, none, none, none, none, none] = some (gl, [some (.d S), some (.d bb), some (.d (.int n)), none, none, none, none, none, none, none, none, none]))
    (h2 : gm_all_meet [bb, .list gl] = some (.bool am)) (h3 : gm_depth_of [S] = some (.int dp)) (h4 : gEq (.int dp) (.int n) = some (.bool am)) (h5 : gNe (.bool am) (.bool am) = some (.bool false))
    (h6 : gm_fewest_parties_out [bb, .list gl] = some (.int a)) (h7 : gm_fewest_left [S] = some (.int a)) (h8 : gNe (.int a) (.int a) = some (.bool false))
    (hc : eLc [10] (eIs (eAs gm_crowds (eAc (eV 1) (eAc (eV 3) eAn)))) (bd 10) (eT (e2 gNe (e1 gLen (eV 10)) (eAs gm_depth_of (eAc (eV 0) eAn)))) (ep (.int 1)) [some (.d S), some (.d bb), some (.d (.int n)), some (.d (.list gl)), none, none, none, none, none, none, none, none] = some ([], [some (.d S), some (.d bb), some (.d (.int n)), some (.d (.list gl)), none, none, none, none, none, none, none, none]))
    (h9 : gNe (.list []) (.list []) = some (.bool false)) (h10 : rng1 [.int n] = some is)
    (hd : forL (bd 5) s_due1 is [some (.d S), some (.d bb), some (.d (.int n)), some (.d (.list gl)), some (.m []), none, none, none, none, none, none, none] = some (.nx, [some (.d S), some (.d bb), some (.d (.int n)), some (.d (.list gl)), some (.m dls), Od u5, Od u6, none, none, none, none, none]))
    (h11 : gm_party_clashes [bb, .list gl] = some dcl) (h12 : gNe dcl (.list dls) = some (.bool false)) (h13 : gm_meeting_pairs [S] = some (.int mp)) (h14 : gMul (.int n) (.int (n - 1)) = some (.int nn)) (h15 : gFdiv (.int nn) (.int 2) = some (.int hh)) (h16 : gLen (.list dls) = some (.int dl)) (h17 : gNe (.int mp) (.int (hh - dl)) = some (.bool false))
    (h18 : gm_meeting_place [bb, .list gl] = some sp) (h19 : gNe (.list dls) (.list []) = some (.bool true)) (h20 : isNone sp = true) (h21 : gm_apart [S] = some (.list ap)) (h22 : gLen (.list ap) = some (.int la)) (h23 : 1 < la) :
    gm_law_parties_right [S] = some (.bool true) := by
  unfold s_due1 s_due2 at hd
  show fnD 1 11 s_law_parties_right _ = _
  rw [fnD_eq rfl]
  unfold s_law_parties_right
  rw [x_gLenL] at h16 h22
  simp -implicitDefEqProofs [h0, h1, hg, h2, h3, h4, h5, h6, h7, h8, hc, h9, h10, hd, h11, h12, h13, h14, h15, Option.some.inj h16, h17, h18, h19, h20, h21, Option.some.inj h22, h23, rt_1, eb]
theorem q_pr2 {S bb dcl cb : D} {gl is dls ls hs ht : List D} {n dp a mp nn hh dl lo hi : Int} {am : Bool} {u5 u6 : Option D}
    (h0 : gm_boxes [.int 1] = some bb) (h1 : gLen S = some (.int n))
    (hg : eLc [8, 9] (eIs (eV 0)) (bdT 2 (bdCons (bd 8) (bdCons (bd 9) bdNil))) (ep true) (eL (eAs gLs (eAc (eAs gTp (eAc (ep (.int 0)) (eAc (eAs gTp (eAc (e2 gSub (ep (.int 0)) (eV 8)) (eAc (ep (.int 1)) eAn))) eAn))) (eAc (eAs gTp (eAc (ep (.int 1)) (eAc (eAs gTp (eAc (eV 9) (eAc (ep (.int 1)) eAn))) eAn))) eAn)))) [some (.d S), some (.d bb), some (.d (.int n)), none, none, none, none, none, none, none, none, none] = some (gl, [some (.d S), some (.d bb), some (.d (.int n)), none, none, none, none, none, none, none, none, none]))
    (h2 : gm_all_meet [bb, .list gl] = some (.bool am)) (h3 : gm_depth_of [S] = some (.int dp)) (h4 : gEq (.int dp) (.int n) = some (.bool am)) (h5 : gNe (.bool am) (.bool am) = some (.bool false))
    (h6 : gm_fewest_parties_out [bb, .list gl] = some (.int a)) (h7 : gm_fewest_left [S] = some (.int a)) (h8 : gNe (.int a) (.int a) = some (.bool false))
    (hc : eLc [10] (eIs (eAs gm_crowds (eAc (eV 1) (eAc (eV 3) eAn)))) (bd 10) (eT (e2 gNe (e1 gLen (eV 10)) (eAs gm_depth_of (eAc (eV 0) eAn)))) (ep (.int 1)) [some (.d S), some (.d bb), some (.d (.int n)), some (.d (.list gl)), none, none, none, none, none, none, none, none] = some ([], [some (.d S), some (.d bb), some (.d (.int n)), some (.d (.list gl)), none, none, none, none, none, none, none, none]))
    (h9 : gNe (.list []) (.list []) = some (.bool false)) (h10 : rng1 [.int n] = some is)
    (hd : forL (bd 5) s_due1 is [some (.d S), some (.d bb), some (.d (.int n)), some (.d (.list gl)), some (.m []), none, none, none, none, none, none, none] = some (.nx, [some (.d S), some (.d bb), some (.d (.int n)), some (.d (.list gl)), some (.m dls), Od u5, Od u6, none, none, none, none, none]))
    (h11 : gm_party_clashes [bb, .list gl] = some dcl) (h12 : gNe dcl (.list dls) = some (.bool false)) (h13 : gm_meeting_pairs [S] = some (.int mp)) (h14 : gMul (.int n) (.int (n - 1)) = some (.int nn)) (h15 : gFdiv (.int nn) (.int 2) = some (.int hh)) (h16 : gLen (.list dls) = some (.int dl)) (h17 : gNe (.int mp) (.int (hh - dl)) = some (.bool false))
    (h18 : gm_meeting_place [bb, .list gl] = some (.tuple [.tuple [.int lo, .int 1]])) (h19 : gNe (.list dls) (.list []) = some (.bool false))
    (hl : eLc [11] (eIs (eV 0)) (bd 11) (ep true) (e2 gIx (eV 11) (ep (.int 0))) [some (.d S), some (.d bb), some (.d (.int n)), some (.d (.list gl)), some (.m dls), Od u5, Od u6, some (.d (.tuple [.tuple [.int lo, .int 1]])), none, none, none, none] = some (ls, [some (.d S), some (.d bb), some (.d (.int n)), some (.d (.list gl)), some (.m dls), Od u5, Od u6, some (.d (.tuple [.tuple [.int lo, .int 1]])), none, none, none, none]))
    (hh2 : eLc [11] (eIs (eV 0)) (bd 11) (ep true) (e2 gIx (eV 11) (ep (.int 1))) [some (.d S), some (.d bb), some (.d (.int n)), some (.d (.list gl)), some (.m dls), Od u5, Od u6, some (.d (.tuple [.tuple [.int lo, .int 1]])), none, none, none, none] = some (hs, [some (.d S), some (.d bb), some (.d (.int n)), some (.d (.list gl)), some (.m dls), Od u5, Od u6, some (.d (.tuple [.tuple [.int lo, .int 1]])), none, none, none, none]))
    (h20 : gMax (.list ls) = some (.int lo)) (h21 : gMin (.list hs) = some (.int hi)) (h22 : gm_combined [bb, .list gl] = some cb) (h23 : gNe cb (.list [.tuple [.int (0 - lo), .int 1], .tuple [.int hi, .int 1]]) = some (.bool false)) (h24 : gm_hitting [S] = some (.list ht)) (h25 : gLen (.list ht) = some (.int 1)) (h26 : gNe (.int 1) (.int 1) = some (.bool false))
    (h27 : gMul (.int lo) (.int 1) = some (.int lo)) (h28 : gMul (.int hi) (.int 1) = some (.int hi)) (h29 : lo ≤ hi) :
    gm_law_parties_right [S] = some (.bool true) := by
  unfold s_due1 s_due2 at hd
  have hz : gSub (.int 0) (.int lo) = some (.int (0 - lo)) := rfl
  generalize (0 - lo) = nlo at *
  show fnD 1 11 s_law_parties_right _ = _
  rw [fnD_eq rfl]
  unfold s_law_parties_right
  rw [x_gLenL] at h16 h25
  simp -implicitDefEqProofs [h0, h1, hg, h2, h3, h4, h5, h6, h7, h8, hc, h9, h10, hd, h11, h12, h13, h14, h15, Option.some.inj h16, h17, h18, h19, hl, hh2, h20, h21, h22, h23, h24, Option.some.inj h25, h26, h27, h28, h29, hz, -x_gSubI, x_gSubI (j := 1), x_gSubI (j := dl), rt_1, eb]
end CS
set_option Elab.async false
set_option linter.all false
set_option maxRecDepth 100000
set_option maxHeartbeats 4000000
set_option autoImplicit false
set_option exponentiation.threshold 400
namespace CS
open PySem PySem.Spec PyProof.Rows L2
theorem eqv_nts : ∀ s : List Nat, PyData.eqvAll (s.map nt) (s.map nt) = true
  | [] => by simp [PyData.eqvAll]
  | a :: s => by
    show PyData.eqvAll (.int (a : Int) :: s.map nt) (.int (a : Int) :: s.map nt) = true
    rw [PyData.eqvAll, eqv_nts s]
    simp [PyData.eqv]
theorem eqv_lts : ∀ f : List (List Nat), PyData.eqvAll (f.map lt) (f.map lt) = true
  | [] => by simp [PyData.eqvAll]
  | s :: f => by
    show PyData.eqvAll (.list (s.map nt) :: f.map lt) (.list (s.map nt) :: f.map lt) = true
    rw [PyData.eqvAll, eqv_lts f, PyData.eqv, eqv_nts s]
    rfl
theorem shp_lts (f : List (List Nat)) : shp (.list (f.map lt)) = true := by
  have hd : PyData.depthAll (f.map lt) ≤ 1 := by
    induction f with
    | nil => simp [PyData.depthAll]
    | cons a f ih =>
      show PyData.depthAll (lt a :: f.map lt) ≤ 1
      rw [PyData.depthAll]
      have : (lt a).depth ≤ 1 := by unfold lt; rw [PyData.depth, depth_nt]; omega
      omega
  unfold shp SeqAt.shaped
  rw [Bool.and_eq_true]
  refine ⟨lay_all lt (fun a => lay_all nt (fun _ => rfl) a) f, decide_eq_true ?_⟩
  rw [PyData.depth]
  omega
theorem gNe_lts (f : List (List Nat)) : gNe (.list (f.map lt)) (.list (f.map lt)) = some (.bool false) := by
  unfold gNe
  rw [shp_lts, PyData.eqv, eqv_lts]
  rfl
theorem gNe_ltn (f : List (List Nat)) : gNe (.list (f.map lt)) (.list []) = some (.bool (!f.isEmpty)) := by
  unfold gNe
  rw [shp_lts, show shp (.list []) = true from by kernel_rfl]
  cases f <;> rfl
theorem gNe_i (i j : Int) : gNe (.int i) (.int j) = some (.bool (!(i == j))) := by
  have h1 : shp (.int i) = true := by kernel_rfl
  have h2 : shp (.int j) = true := by kernel_rfl
  unfold gNe
  simp only [h1, h2, Bool.and_self]
  rfl
theorem gNe_bb (b : Bool) : gNe (.bool b) (.bool b) = some (.bool false) := by cases b <;> kernel_rfl
theorem mx_bnd {L : List (Int × Int)} {q : Int × Int} (hb : bnd L = some q) : mxI (L.map fun p => p.1) = q.1 := by
  obtain ⟨h1, ⟨a, ha, e1⟩, _⟩ := bnd_some hb
  have hne : L.map (fun p => p.1) ≠ [] := List.ne_nil_of_mem (List.mem_map_of_mem ha)
  refine Int.le_antisymm ?_ (by rw [← e1]; exact mxI_ge (List.mem_map_of_mem (f := fun p : Int × Int => p.1) ha))
  obtain ⟨p, hp, e⟩ := List.mem_map.mp (mxI_mem hne)
  rw [← e]
  exact (h1 p hp).1
theorem mn_bnd {L : List (Int × Int)} {q : Int × Int} (hb : bnd L = some q) : mnI (L.map fun p => p.2) = q.2 := by
  obtain ⟨h1, _, ⟨a, ha, e1⟩⟩ := bnd_some hb
  have hne : L.map (fun p => p.2) ≠ [] := List.ne_nil_of_mem (List.mem_map_of_mem ha)
  refine Int.le_antisymm (by rw [← e1]; exact mnI_le (List.mem_map_of_mem (f := fun p : Int × Int => p.2) ha)) ?_
  obtain ⟨p, hp, e⟩ := List.mem_map.mp (mnI_mem hne)
  rw [← e]
  exact (h1 p hp).2
theorem due_mtB {L : List (Int × Int)} (h : Rgs L) : mtB (bnd L) = (due L).isEmpty := by
  cases e : mtB (bnd L) with
  | false =>
    have e2 : mtB (bnd (pick L (List.range L.length))) = false := by rw [pick_range]; exact e
    have := helly h.le (fun i hi => List.mem_range.mp hi) e2
    cases hd : due L with
    | nil => rw [hd] at this; cases this
    | cons _ _ => rfl
  | true =>
    obtain ⟨x, hx⟩ := mtB_true e
    cases hd : due L with
    | nil => rfl
    | cons s r =>
      have hs : s ∈ due L := by rw [hd]; exact List.mem_cons_self
      obtain ⟨h1, h2⟩ := List.mem_filter.mp hs
      obtain ⟨i, j, rfl, hij, hj⟩ := prs_two h1
      have hi : i < L.length := by omega
      have h3 := hx _ (List.getElem_mem hi)
      have h4 := hx _ (List.getElem_mem hj)
      have h2 : (!mtAt L i j) = true := h2
      unfold mtAt at h2
      rw [List.getElem?_eq_getElem hi, List.getElem?_eq_getElem hj] at h2
      unfold mt at h2
      simp at h2
      omega
theorem v_pright {L : List (Int × Int)} (h : Pts L) : gm_law_parties_right [rgs L] = some (.bool true) := by
  have hne : L ≠ [] := fun e => by have := h.pos; rw [e] at this; simp at this
  have h8 := h.l8
  have hn : L.length < 9 := by omega
  obtain ⟨u5, u6, hd⟩ := v_dueL h.toRgs h.l8 (y1 := bk) (y3 := guests L)
  obtain ⟨s, r, hms⟩ := ms_cons h
  have hsl := ms_len h (s := s) (by rw [hms]; simp)
  have h2 := v_allmeet h
  have h4 : gEq (.int (dep L)) (.int (L.length : Int)) = some (.bool (mtB (bnd L))) := by rw [gEq_i, dep_all h.le hne]; rfl
  have h6 := v_fout h (good_ne h) hms
  rw [hsl] at h6
  have hg : eLc [8, 9] (eIs (eV 0)) (bdT 2 (bdCons (bd 8) (bdCons (bd 9) bdNil))) (ep true) (eL (eAs gLs (eAc (eAs gTp (eAc (ep (.int 0)) (eAc (eAs gTp (eAc (e2 gSub (ep (.int 0)) (eV 8)) (eAc (ep (.int 1)) eAn))) eAn))) (eAc (eAs gTp (eAc (ep (.int 1)) (eAc (eAs gTp (eAc (eV 9) (eAc (ep (.int 1)) eAn))) eAn))) eAn)))) [some (.d (rgs L)), some (.d bk), some (.d (.int (L.length : Int))), none, none, none, none, none, none, none, none, none] = some (L.map guest, [some (.d (rgs L)), some (.d bk), some (.d (.int (L.length : Int))), none, none, none, none, none, none, none, none, none]) :=
    lc_map rg guest L (by simp -implicitDefEqProofs [rgs]) rfl (by omega) fun p hp => ⟨[some (.d (rgs L)), some (.d bk), some (.d (.int (L.length : Int))), none, none, none, none, none, some (.d (.int p.1)), some (.d (.int p.2)), none, none], by simp -implicitDefEqProofs [wipeE, rg], rfl, fun _ => by simp -implicitDefEqProofs [guest, fr], rfl⟩
  have hc : eLc [10] (eIs (eAs gm_crowds (eAc (eV 1) (eAc (eV 3) eAn)))) (bd 10) (eT (e2 gNe (e1 gLen (eV 10)) (eAs gm_depth_of (eAc (eV 0) eAn)))) (ep (.int 1)) [some (.d (rgs L)), some (.d bk), some (.d (.int (L.length : Int))), some (.d (guests L)), none, none, none, none, none, none, none, none] = some ([], [some (.d (rgs L)), some (.d bk), some (.d (.int (L.length : Int))), some (.d (guests L)), none, none, none, none, none, none, none, none]) := by
    have hv := v_crowds h (good_ne h)
    have hdp := v_depth h.toRgs
    have hall : ∀ s ∈ (ms L).mergeSort leL, (s.length : Int) = dep L := fun s hs => ms_len h (List.mem_mergeSort.mp hs)
    have hml : ((ms L).mergeSort leL).length ≤ 16777216 := by
      rw [List.length_mergeSort]
      have h1 := List.length_filter_le (fun s => !inAny (sb L) s) (asF L.length L.length)
      have h2 := as_len L.length hn
      have h3 := List.length_filter_le (fun s => s.length == lastN (goodS L)) (goodS L)
      unfold ms
      unfold goodS at *
      omega
    generalize (ms L).mergeSort leL = cs at *
    generalize guests L = gs at *
    generalize bk = bb at *
    generalize rgs L = R at *
    have := lc_val lt (fun _ => PyData.int 1) (fun _ => false) cs (vs := [10]) (src := eIs (eAs gm_crowds (eAc (eV 1) (eAc (eV 3) eAn)))) (b := bd 10) (t := eT (e2 gNe (e1 gLen (eV 10)) (eAs gm_depth_of (eAc (eV 0) eAn)))) (el := ep (.int 1)) (ρ := [some (.d R), some (.d bb), some (.d (.int (L.length : Int))), some (.d gs), none, none, none, none, none, none, none, none]) (ρ1 := [some (.d R), some (.d bb), some (.d (.int (L.length : Int))), some (.d gs), none, none, none, none, none, none, none, none]) (by simp -implicitDefEqProofs [hv]) rfl hml fun s hs => ⟨[some (.d R), some (.d bb), some (.d (.int (L.length : Int))), some (.d gs), none, none, none, none, none, none, some (.d (lt s)), none], by simp -implicitDefEqProofs [wipeE], by
      have e1 : gLen (lt s) = some (.int (dep L)) := by rw [← hall s hs]; unfold lt; simp
      have e3 : gNe (.int (dep L)) (.int (dep L)) = some (.bool false) := by rw [gNe_i]; simp
      simp -implicitDefEqProofs [e1, hdp, e3], fun hh => (by cases hh), rfl⟩
    rw [this]
    simp
  have h12 : gNe (.list (((sb L).mergeSort leL).map lt)) (.list ((due L).map lt)) = some (.bool false) := by rw [due_sorted h]; exact gNe_lts _
  have sL : Sm (L.length : Int) := Sm_small (by omega) (by omega)
  have sL1 : Sm ((L.length : Int) - 1) := Sm_small (by omega) (by omega)
  have h14 := x_gMulS sL sL1
  have h15 := x_fdiv2 (a := (L.length : Int) * ((L.length : Int) - 1))
  rw [fdiv2_of (mp_due L)] at h15
  have h16 : gLen (.list ((due L).map lt)) = some (.int ((due L).length : Int)) := by simp
  have h17 : gNe (.int (mpL L)) (.int (mpL L + (due L).length - (due L).length)) = some (.bool false) := by rw [gNe_i, Int.add_sub_cancel]; simp
  have h19 := gNe_ltn (due L)
  obtain ⟨q, hb⟩ : ∃ q, bnd L = some q := by
    obtain ⟨a, l, rfl⟩ := List.exists_cons_of_ne_nil hne
    exact bnd_cons a l
  have h18 := v_place h hb
  have hdm := due_mtB h.toRgs
  have h7 := v_fleft h.toRgs
  have h8' : gNe (.int ((L.length : Int) - dep L)) (.int ((L.length : Int) - dep L)) = some (.bool false) := by rw [gNe_i]; simp
  have h9 : gNe (.list []) (.list []) = some (.bool false) := by kernel_rfl
  have h1 : gLen (rgs L) = some (.int (L.length : Int)) := by unfold rgs; simp
  cases he : (due L).isEmpty with
  | false =>
    rw [he] at h19 hdm
    rw [hb] at hdm
    have hq : ¬ q.1 ≤ q.2 := of_decide_eq_false hdm
    rw [if_neg hq] at h18
    obtain ⟨xs, hx1, hx2⟩ := v_apart h.toRgs
    obtain ⟨a, ha, b, hb2, hab⟩ := mtB_false (ps := L) (by rw [hb]; exact hdm)
    have h23 := ap_two h.le hb2 ha hab
    exact q_pr1 v_boxes h1 hg h2 (v_depth h.toRgs) h4 (gNe_bb _) h6 h7 h8' hc h9 (rng1_nt (by omega)) hd (v_pclash h) h12 (v_mpairs h.toRgs) h14 h15 h16 h17 h18 h19 rfl hx2 (la := ((apL L).length : Int)) (by rw [← hx1]; simp) (by omega)
  | true =>
    rw [he] at h19 hdm
    obtain ⟨x, hx⟩ := mtB_true hdm
    rw [hb] at hdm
    have hq : q.1 ≤ q.2 := of_decide_eq_true hdm
    rw [if_pos hq] at h18
    have h1l := ap_one hne fun a ha b hb => Int.le_trans (hx b hb).1 (hx a ha).2
    have hsm := bnd_sm' h q hb
    have hl : eLc [11] (eIs (eV 0)) (bd 11) (ep true) (e2 gIx (eV 11) (ep (.int 0))) [some (.d (rgs L)), some (.d bk), some (.d (.int (L.length : Int))), some (.d (guests L)), some (.m ((due L).map lt)), Od u5, Od u6, some (.d (.tuple [.tuple [.int q.1, .int 1]])), none, none, none, none] = some (L.map fun p => .int p.1, [some (.d (rgs L)), some (.d bk), some (.d (.int (L.length : Int))), some (.d (guests L)), some (.m ((due L).map lt)), Od u5, Od u6, some (.d (.tuple [.tuple [.int q.1, .int 1]])), none, none, none, none]) :=
      lc_map rg _ L (by simp -implicitDefEqProofs [rgs]) rfl (by omega) fun p hp => ⟨[some (.d (rgs L)), some (.d bk), some (.d (.int (L.length : Int))), some (.d (guests L)), some (.m ((due L).map lt)), Od u5, Od u6, some (.d (.tuple [.tuple [.int q.1, .int 1]])), none, none, none, some (.d (rg p))], by simp -implicitDefEqProofs [wipeE], rfl, fun _ => by simp -implicitDefEqProofs [rg], rfl⟩
    have hh2 : eLc [11] (eIs (eV 0)) (bd 11) (ep true) (e2 gIx (eV 11) (ep (.int 1))) [some (.d (rgs L)), some (.d bk), some (.d (.int (L.length : Int))), some (.d (guests L)), some (.m ((due L).map lt)), Od u5, Od u6, some (.d (.tuple [.tuple [.int q.1, .int 1]])), none, none, none, none] = some (L.map fun p => .int p.2, [some (.d (rgs L)), some (.d bk), some (.d (.int (L.length : Int))), some (.d (guests L)), some (.m ((due L).map lt)), Od u5, Od u6, some (.d (.tuple [.tuple [.int q.1, .int 1]])), none, none, none, none]) :=
      lc_map rg _ L (by simp -implicitDefEqProofs [rgs]) rfl (by omega) fun p hp => ⟨[some (.d (rgs L)), some (.d bk), some (.d (.int (L.length : Int))), some (.d (guests L)), some (.m ((due L).map lt)), Od u5, Od u6, some (.d (.tuple [.tuple [.int q.1, .int 1]])), none, none, none, some (.d (rg p))], by simp -implicitDefEqProofs [wipeE], rfl, fun _ => by simp -implicitDefEqProofs [rg], rfl⟩
    have h20 := gMax_ints (xs := L.map fun p => p.1) (by simpa using hne)
    rw [mx_bnd hb, List.map_map] at h20
    have h21 := gMin_ints (xs := L.map fun p => p.2) (by simpa using hne)
    rw [mn_bnd hb, List.map_map] at h21
    have h27 := x_gMulS hsm.1 Sm_1
    have h28 := x_gMulS hsm.2 Sm_1
    rw [Int.mul_one] at h27 h28
    have h23 : gNe (.list [fr (0 - q.1), fr q.2]) (.list [.tuple [.int (0 - q.1), .int 1], .tuple [.int q.2, .int 1]]) = some (.bool false) := by
      generalize 0 - q.1 = z
      unfold gNe fr
      rw [show shp (.list [.tuple [.int z, .int 1], .tuple [.int q.2, .int 1]]) = true from by kernel_rfl]
      simp [PyData.eqv, PyData.eqvAll]
    exact q_pr2 v_boxes h1 hg h2 (v_depth h.toRgs) h4 (gNe_bb _) h6 h7 h8' hc h9 (rng1_nt (by omega)) hd (v_pclash h) h12 (v_mpairs h.toRgs) h14 h15 h16 h17 h18 h19 hl hh2 h20 h21 (v_comb h hb hq) h23 (v_hitting h.toRgs) (by rw [x_gLenL, List.length_map, h1l]; rfl) (by rw [gNe_i]; rfl) h27 h28 hq
end CS
set_option Elab.async false
set_option linter.all false
set_option maxRecDepth 100000
set_option maxHeartbeats 4000000
set_option autoImplicit false
set_option exponentiation.threshold 400
namespace CS
open PySem PySem.Spec PyProof.Rows L2
noncomputable def s_lp : SS := sIf (eAnd (eT (eAs gm_have_meetings (eAc (eV 0) (eAc (eV 3) (eAc (eV 2) eAn))))) (eT (e2 gGt (e1 gLen (eAs gm_hitting (eAc (eV 0) eAn))) (e2 gAdd (e2 gSub (eV 3) (eV 2)) (ep (.int 1)))))) (sR (ep (.bool false))) sNx
noncomputable def s_lq : SS := sFor (eAs rng2 (eAc (eV 2) (eAc (e2 gAdd (eV 1) (ep (.int 1))) eAn))) (bd 3) s_lp
theorem q_lp {S : D} {ht : List D} {n p q la : Int} {c : Bool} (h1 : gm_have_meetings [S, .int p, .int q] = some (.bool c)) (h2 : gm_hitting [S] = some (.list ht)) (h3 : gLen (.list ht) = some (.int la)) (h4 : c = true → la ≤ p - q + 1) :
    s_lp [some (.d S), some (.d (.int n)), some (.d (.int q)), some (.d (.int p))] = some (.nx, [some (.d S), some (.d (.int n)), some (.d (.int q)), some (.d (.int p))]) := by
  unfold s_lp
  rw [x_gLenL] at h3
  cases c with
  | false => simp -implicitDefEqProofs [h1]
  | true =>
    have h5 : ¬ (p - q + 1 < la) := by have := h4 rfl; omega
    simp -implicitDefEqProofs [h1, h2, Option.some.inj h3, h5]
theorem v_lp {L : List (Int × Int)} (h : Rgs L) {p q : Nat} (hq : 2 ≤ q) (hqp : q ≤ p) (hp : p ≤ L.length) {n : Int} :
    s_lp [some (.d (rgs L)), some (.d (.int n)), some (.d (.int (q : Int))), some (.d (nt p))] = some (.nx, [some (.d (rgs L)), some (.d (.int n)), some (.d (.int (q : Int))), some (.d (nt p))]) := by
  refine q_lp (p := (p : Int)) (v_hm h (by omega) (by omega)) (v_hitting h) (la := ((apL L).length : Int)) (by simp) fun hc => ?_
  have hc := of_decide_eq_true hc
  rcases rm_ge (L := L) (r := (q : Int) - 1) (by omega) with hg | hg <;> omega
theorem q_lsrc {S : D} {n q : Int} {o : Option W} {xs : List D} (h : rng2 [.int q, .int (n + 1)] = some xs) : eAs rng2 (eAc (eV 2) (eAc (e2 gAdd (eV 1) (ep (.int 1))) eAn)) [some (.d S), some (.d (.int n)), some (.d (.int q)), o] = some (xs, [some (.d S), some (.d (.int n)), some (.d (.int q)), o]) := by
  simp -implicitDefEqProofs [h]
theorem v_lq {L : List (Int × Int)} (h : Rgs L) {q : Nat} (hq : 2 ≤ q) (hq2 : q ≤ 10) {o3 : Option D} : ∃ u3, s_lq [some (.d (rgs L)), some (.d (.int (L.length : Int))), some (.d (.int (q : Int))), Od o3] = some (.nx, [some (.d (rgs L)), some (.d (.int (L.length : Int))), some (.d (.int (q : Int))), Od u3]) := by
  have hl := h.len
  have hr : rng2 [.int (q : Int), .int ((L.length : Int) + 1)] = some ((rgN q (L.length + 1 - q)).map nt) := by
    have := rng2_nt (a := q) (b := L.length + 1) (by omega) (by omega)
    push_cast at this
    exact this
  obtain ⟨ρ', e, u3, rfl⟩ := for_inv nt (b := bd 3) (s := s_lp)
    (fun pre ρ => ∃ u3, ρ = [some (.d (rgs L)), some (.d (.int (L.length : Int))), some (.d (.int (q : Int))), Od u3]) (rgN q (L.length + 1 - q))
    (ρ := [some (.d (rgs L)), some (.d (.int (L.length : Int))), some (.d (.int (q : Int))), Od o3]) ⟨o3, rfl⟩ (fun pre a post ρ hz ⟨u3, hρ⟩ => by
      subst hρ
      have ha : a ∈ rgN q (L.length + 1 - q) := by rw [hz]; simp
      rw [rgN_mem] at ha
      exact ⟨_, _, by simp -implicitDefEqProofs, v_lp h hq ha.1 (by omega), some (nt a), rfl⟩)
  exact ⟨u3, (q_for (q_lsrc hr)).trans e⟩
theorem q_long {S : D} {ap ht : List D} {n mp fd dp la : Int} {u3 : Option D} (h1 : gLen S = some (.int n)) (h2 : gm_meeting_pairs [S] = some (.int mp)) (h3 : gm_forced_depth [.int n, .int mp] = some (.int fd)) (h4 : gm_depth_of [S] = some (.int dp)) (h5 : fd ≤ dp)
    (h6 : gm_apart [S] = some (.list ap)) (h7 : gLen (.list ap) = some (.int la)) (h8 : gm_hitting [S] = some (.list ht)) (h9 : gLen (.list ht) = some (.int la)) (h10 : gNe (.int la) (.int la) = some (.bool false))
    (h11 : forL (bd 2) s_lq [.int 2, .int 3, .int 4] [some (.d S), some (.d (.int n)), none, none] = some (.nx, [some (.d S), some (.d (.int n)), some (.d (.int 4)), Od u3]))
    (h12 : gm_have_meetings [S, .int (la + 1), .int 2] = some (.bool true)) (h13 : gm_have_meetings [S, .int la, .int 2] = some (.bool false)) : gm_law_long_right [S] = some (.bool true) := by
  unfold s_lq s_lp at h11
  have h5' : ¬ dp < fd := by omega
  rw [x_gLenL] at h7 h9
  show fnD 1 3 s_law_long_right _ = _
  rw [fnD_eq rfl]
  unfold s_law_long_right
  generalize gm_meeting_pairs = k1 at *
  generalize gm_forced_depth = k2 at *
  generalize gm_depth_of = k3 at *
  generalize gm_apart = k4 at *
  generalize gm_hitting = k5 at *
  generalize gm_have_meetings = k6 at *
  simp -implicitDefEqProofs [h1, h2, h3, h4, h5', h6, Option.some.inj h7, h8, Option.some.inj h9, h10, h11, h12, h13, rt_1, -x_for1]
theorem q_l3 {R : D} {n : Int} {sl : SS} {w2 w3 w4 : Option D} (e2 : sl [some (.d R), some (.d (.int n)), some (.d (.int 2)), none] = some (.nx, [some (.d R), some (.d (.int n)), some (.d (.int 2)), Od w2]))
    (e3 : sl [some (.d R), some (.d (.int n)), some (.d (.int 3)), Od w2] = some (.nx, [some (.d R), some (.d (.int n)), some (.d (.int 3)), Od w3])) (e4 : sl [some (.d R), some (.d (.int n)), some (.d (.int 4)), Od w3] = some (.nx, [some (.d R), some (.d (.int n)), some (.d (.int 4)), Od w4])) :
    forL (bd 2) sl [.int 2, .int 3, .int 4] [some (.d R), some (.d (.int n)), none, none] = some (.nx, [some (.d R), some (.d (.int n)), some (.d (.int 4)), Od w4]) := by
  simp -implicitDefEqProofs [e2, e3, e4]
theorem v_long {L : List (Int × Int)} (h : Rgs L) (ha : 1 < (apL L).length) (h20 : L.length ≤ 100) : gm_law_long_right [rgs L] = some (.bool true) := by
  have hne : L ≠ [] := fun e => by have := h.pos; rw [e] at this; simp at this
  have hl := h.pos
  obtain ⟨p, hp, ed⟩ := dep_at h.le hne
  have hd1 := cnt_pos h.le hp
  have hd2 := dep_le h.le hne
  have hmp := mp_due L
  have hmp0 : 0 ≤ mpL L := by rw [mp_prc]; omega
  have hmp1 : mpL L ≤ ((L.length : Int) * ((L.length : Int) - 1)).fdiv 2 := by rw [fdiv2_of hmp]; omega
  obtain ⟨fd, f1, f2⟩ := v_forced (n := (L.length : Int)) (ps := mpL L) (dd := dep L) (by omega) (by omega) hmp0 hmp1 (by omega) hd2 (pairs_le h.le hne)
  obtain ⟨xs, x1, x2⟩ := v_apart h
  have hl2 := apL_len L
  obtain ⟨w2, e2⟩ := v_lq h (q := 2) (by omega) (by omega) (o3 := none)
  obtain ⟨w3, e3⟩ := v_lq h (q := 3) (by omega) (by omega) (o3 := w2)
  obtain ⟨w4, e4⟩ := v_lq h (q := 4) (by omega) (by omega) (o3 := w3)
  have h11 : forL (bd 2) s_lq [.int 2, .int 3, .int 4] [some (.d (rgs L)), some (.d (.int (L.length : Int))), none, none] = some (.nx, [some (.d (rgs L)), some (.d (.int (L.length : Int))), some (.d (.int 4)), Od w4]) := by
    exact q_l3 e2 e3 e4
  have h12 := v_hm h (p := ((apL L).length : Int) + 1) (q := 2) (by omega) (by omega)
  have h13 := v_hm h (p := ((apL L).length : Int)) (q := 2) (by omega) (by omega)
  rw [show (2 : Int) - 1 = 1 from rfl, rm_ap] at h12 h13
  rw [decide_eq_true (by omega)] at h12
  rw [decide_eq_false (by omega)] at h13
  exact q_long (by unfold rgs; simp) (v_mpairs h) f2 (v_depth h) f1 x2 (la := ((apL L).length : Int)) (by rw [← x1]; simp) (v_hitting h) (by simp) (by rw [gNe_i]; simp) h11 h12 h13
end CS
set_option Elab.async false
set_option linter.all false
set_option maxRecDepth 100000
set_option maxHeartbeats 4000000
set_option autoImplicit false
set_option exponentiation.threshold 400
namespace CS
open PySem PySem.Spec PyProof.Rows L2
def ntOf : Option (Fl × En) → Option (List D)
  | some (.rt (.m z), _) => some z
  | _ => none
theorem nt_1 {z : List D} {ρ : En} : ntOf (some (.rt (.m z), ρ)) = some z := rfl
theorem fnN_eq {na nl : Nat} {s : SS} {xs : List D} (h : Nat.beq xs.length na = true) : fnN na nl s xs = ntOf (s (argE xs ++ List.replicate nl none)) := by
  unfold fnN
  rw [h]
  simp only
  unfold ntOf
  split <;> simp_all
theorem p18 : gPow (.int 10) (.int 18) = some (.int (10 ^ 18)) := by kernel_rfl
theorem p44 : gPow (.int 10) (.int 44) = some (.int (10 ^ 44)) := by kernel_rfl
theorem p27 : gPow (.int 10) (.int 27) = some (.int (10 ^ 27)) := by kernel_rfl
theorem q_source {i k b t18 t44 s0 m1 m97 k2 : Int} {c : Bool} (h1 : gPow (.int 10) (.int 18) = some (.int t18)) (h2 : gMax2 (.int 0) (.int ((i.natAbs : Int) - t18)) = some (.int s0)) (h3 : gPow (.int 10) (.int 44) = some (.int t44)) (h5 : gMod (.int (i.natAbs : Int)) (.int (t44 + 31)) = some (.int m1))
    (h6 : gMul (.int m1) (.int 97) = some (.int m97)) (h7 : gMul (.int 2) (.int k) = some (.int k2)) (h8 : gLtX (.int i) (.int 0) = some (.bool c)) (h9 : gInt (.bool c) = some (.int b)) : gm_law_source [.int i, .int k] = some [.int s0, .int (m97 + k2 + b), .int 0] := by
  show fnN 2 1 s_law_source _ = _
  rw [fnN_eq rfl]
  unfold s_law_source
  generalize gPow = gp at *
  generalize gMax2 = g2 at *
  generalize gMod = gm at *
  generalize gMul = gu at *
  simp -implicitDefEqProofs [h1, h2, h3, h5, h6, h7, h9, nt_1, -x_gLtI, -x_gInt2, h8]
theorem v_source (i : Int) (k : Nat) (hk : k ≤ 10) : ∃ src, gm_law_source [.int i, .int (k : Int)] = some src ∧ St 0 src := by
  have f := fmod_in (a := (i.natAbs : Int)) (c := 10 ^ 44 + 31) (by decide)
  have h2 : gMax2 (.int 0) (.int ((i.natAbs : Int) - 10 ^ 18)) = some (.int (if (i.natAbs : Int) - 10 ^ 18 > 0 then (i.natAbs : Int) - 10 ^ 18 else 0)) := rfl
  have hb : ∃ b, gInt (.bool (decide (i < 0))) = some (.int b) ∧ 0 ≤ b ∧ b ≤ 1 := by
    by_cases h : i < 0
    · exact ⟨1, by simp [h], by omega, by omega⟩
    · exact ⟨0, by simp [h], by omega, by omega⟩
  obtain ⟨b, h9, b0, b1⟩ := hb
  refine ⟨_, q_source (i := i) (k := (k : Int)) p18 h2 p44 (x_gModI (by decide)) (x_gMulS (Sm_of (by omega) (by omega)) (by decide)) (x_gMulS Sm_2 (Sm_small (by omega) (by omega))) rfl h9, _, _, _, rfl, ?_, ?_, ?_, Int.le_refl _, Int.le_refl _⟩
  · split <;> omega
  · omega
  · omega
end CS
set_option Elab.async false
set_option linter.all false
set_option maxRecDepth 100000
set_option maxHeartbeats 4000000
set_option autoImplicit false
set_option exponentiation.threshold 400
namespace CS
open PySem PySem.Spec PyProof.Rows L2
noncomputable def s_lap : SS := (sSq (sA 5 (e2 gIx (eL (eAs gLs (eAc (ep (.int 6)) (eAc (ep (.int 30)) (eAc (e2 gPow (ep (.int 10)) (ep (.int 27))) eAn))))) (eV 4)))
  (sSq (sIf (eNot (eT (eAs gm_law_parties_right (eAc (eCM gm_law_spans 3 (eAc (e2 gAdd (ep (.int 1)) (eCM gm_law_draw 3 (eAc (ep (.int 6)) eAn))) (eAc (eV 5) eAn))) eAn)))) (sR (ep (.bool false))) sNx)
  (sSq (sA 6 (eCM gm_law_spans 3 (eAc (e2 gAdd (ep (.int 2)) (eCM gm_law_draw 3 (eAc (ep (.int 12)) eAn))) (eAc (eV 5) eAn))))
  (sIf (eAnd (eT (e2 gGt (e1 gLen (eAs gm_apart (eAc (eV 6) eAn))) (ep (.int 1)))) (eNot (eT (eAs gm_law_long_right (eAc (eV 6) eAn))))) (sR (ep (.bool false))) sNx))))
theorem q_lap {x0 x1 x2 x4 S1 S2 : D} {src c1 c2 c3 c4 : List D} {o5 o6 : Option D} {W z1 z2 la t27 : Int} {ap : List D} (h1 : gPow (.int 10) (.int 27) = some (.int t27)) (h2 : gIx (.list [.int 6, .int 30, .int t27]) x4 = some (.int W))
    (h3 : gm_law_draw src [.int 6] = some (.int z1, c1)) (h4 : gm_law_spans c1 [.int (1 + z1), .int W] = some (S1, c2)) (h5 : gm_law_parties_right [S1] = some (.bool true)) (h6 : gm_law_draw c2 [.int 12] = some (.int z2, c3)) (h7 : gm_law_spans c3 [.int (2 + z2), .int W] = some (S2, c4))
    (h8 : gm_apart [S2] = some (.list ap)) (h9 : gLen (.list ap) = some (.int la)) (h10 : 1 < la → gm_law_long_right [S2] = some (.bool true)) :
    s_lap [some (.d x0), some (.d x1), some (.d x2), some (.m src), some (.d x4), Od o5, Od o6] = some (.nx, [some (.d x0), some (.d x1), some (.d x2), some (.m c4), some (.d x4), some (.d (.int W)), some (.d S2)]) := by
  unfold s_lap
  rw [x_gLenL] at h9
  generalize gPow = k0 at *
  generalize gm_law_draw = k1 at *
  generalize gm_law_spans = k2 at *
  generalize gm_law_parties_right = k3 at *
  generalize gm_law_long_right = k4 at *
  generalize gm_apart = k5 at *
  generalize gIx = k6 at *
  by_cases h : 1 < la
  · simp -implicitDefEqProofs [eb, h1, h2, h3, h4, h5, h6, h7, h8, Option.some.inj h9, h10 h, h]
  · simp -implicitDefEqProofs [eb, h1, h2, h3, h4, h5, h6, h7, h8, Option.some.inj h9, h]
end CS
set_option Elab.async false
set_option linter.all false
set_option maxRecDepth 100000
set_option maxHeartbeats 4000000
set_option autoImplicit false
set_option exponentiation.threshold 400
namespace CS
open PySem PySem.Spec PyProof.Rows L2
theorem Pts_of {L : List (Int × Int)} {M : Int} (h1 : 1 ≤ L.length) (h8 : L.length ≤ 8) (hM : M ≤ 10 ^ 40) (hb : ∀ p ∈ L, Bd1 M p) : Pts L :=
  { pos := h1, len := by omega, le := fun p hp => (hb p hp).1, l8 := h8, sm := fun p hp => by
      obtain ⟨h1, h2, h3⟩ := hb p hp
      exact ⟨Sm_of (by omega) (by omega), Sm_of (by omega) (by omega)⟩ }
theorem Rgs_of {L : List (Int × Int)} {M : Int} (h1 : 1 ≤ L.length) (h8 : L.length ≤ 400) (hb : ∀ p ∈ L, Bd1 M p) : Rgs L := ⟨h1, h8, fun p hp => (hb p hp).1⟩
theorem v_lap {B : Int} {src : List D} {x0 x1 x2 : D} {lap : Nat} {o5 o6 : Option D} (hs : St B src) (hB : B + 300 ≤ 10 ^ 6) (hl : lap < 3) :
    ∃ src' u5 u6, St (B + 300) src' ∧ s_lap [some (.d x0), some (.d x1), some (.d x2), some (.m src), some (.d (nt lap)), Od o5, Od o6] = some (.nx, [some (.d x0), some (.d x1), some (.d x2), some (.m src'), some (.d (nt lap)), Od u5, Od u6]) := by
  have hW : ∃ W : Int, 1 ≤ W ∧ W ≤ 10 ^ 30 ∧ gIx (.list [.int 6, .int 30, .int (10 ^ 27)]) (nt lap) = some (.int W) := by
    have : lap = 0 ∨ lap = 1 ∨ lap = 2 := by omega
    rcases this with rfl | rfl | rfl
    · exact ⟨6, by omega, by omega, rfl⟩
    · exact ⟨30, by omega, by omega, rfl⟩
    · exact ⟨10 ^ 27, by omega, by omega, rfl⟩
  obtain ⟨W, w1, w2, w3⟩ := hW
  obtain ⟨z1, c1, d1, l1, r1, t1⟩ := v_draw hs (by omega) (c := 6) (by omega) (by decide)
  obtain ⟨L1, c2, e1, n1, b1, t2⟩ := v_spans (many := (1 + z1).toNat) t1 (by omega) w1 w2 (by omega)
  obtain ⟨z2, c3, d2, l2, r2, t3⟩ := v_draw t2 (by omega) (c := 12) (by omega) (by decide)
  obtain ⟨L2', c4, e2, n2, b2, t4⟩ := v_spans (many := (2 + z2).toNat) t3 (by omega) w1 w2 (by omega)
  rw [show (((1 + z1).toNat : Nat) : Int) = 1 + z1 from by omega] at e1
  rw [show (((2 + z2).toNat : Nat) : Int) = 2 + z2 from by omega] at e2
  have g1 : Pts L1 := Pts_of (by omega) (by omega) (by omega) b1
  have g2 : Rgs L2' := Rgs_of (by omega) (by omega) b2
  obtain ⟨xs, x1, x2⟩ := v_apart g2
  exact ⟨c4, some (.int W), some (rgs L2'), St_mono t4 (by omega), q_lap p27 w3 d1 e1 (v_pright g1) d2 e2 x2 (la := ((apL L2').length : Int)) (by rw [← x1]; simp) fun h => v_long g2 (by omega) (by omega)⟩
end CS
set_option Elab.async false
set_option linter.all false
set_option maxRecDepth 100000
set_option maxHeartbeats 4000000
set_option autoImplicit false
set_option exponentiation.threshold 400
namespace CS
open PySem PySem.Spec PyProof.Rows L2
theorem v_laps {src : List D} {x0 x1 x2 : D} {o4 o5 o6 : Option D} (hs : St 0 src) :
    ∃ src' u4 u5 u6, St 900 src' ∧ forL (bd 4) s_lap ((rgN 0 3).map nt) [some (.d x0), some (.d x1), some (.d x2), some (.m src), Od o4, Od o5, Od o6] = some (.nx, [some (.d x0), some (.d x1), some (.d x2), some (.m src'), Od u4, Od u5, Od u6]) := by
  obtain ⟨ρ', e, src', u4, u5, u6, g, rfl⟩ := for_inv nt (b := bd 4) (s := s_lap)
    (fun pre ρ => ∃ (src' : List D) (u4 u5 u6 : Option D), St (300 * pre.length) src' ∧ ρ = [some (.d x0), some (.d x1), some (.d x2), some (.m src'), Od u4, Od u5, Od u6]) (rgN 0 3)
    (ρ := [some (.d x0), some (.d x1), some (.d x2), some (.m src), Od o4, Od o5, Od o6]) ⟨src, o4, o5, o6, (by simpa using hs), rfl⟩ (fun pre a post ρ hz ⟨c, u4, u5, u6, g, hρ⟩ => by
      subst hρ
      have ha : a ∈ rgN 0 3 := by rw [hz]; simp
      rw [rgN_mem] at ha
      have hl := congrArg List.length hz
      rw [rgN_len] at hl
      simp at hl
      obtain ⟨c2, w5, w6, g2, e2⟩ := v_lap (x0 := x0) (x1 := x1) (x2 := x2) (lap := a) (o5 := u5) (o6 := u6) g (by omega) (by omega)
      refine ⟨_, _, by simp -implicitDefEqProofs, e2, c2, some (nt a), w5, w6, St_mono g2 ?_, rfl⟩
      rw [List.length_append, List.length_singleton]
      push_cast
      omega)
  rw [rgN_len] at g
  exact ⟨src', u4, u5, u6, St_mono g (by omega), e⟩
noncomputable def s_cell : SS := (sSq (sAN 3 (eAs gm_law_source (eAc (eV 2) (eAc (eV 1) eAn))))
  (sSq (sFor (eAs rng1 (eAc (ep (.int 3)) eAn)) (bd 4) s_lap)
  (sIf (eAnd (eT (e2 gEq (eV 1) (ep (.int 0)))) (eAnd (eT (e2 gNeS (eV 0) (eL (eAs gLs eAn)))) (eNot (eT (eAs gm_law_parties_right (eAc (eCM gm_law_spans 3 (eAc (ep (.int 8)) (eAc (ep (.int 9)) eAn))) eAn)))))) (sR (ep (.bool false))) sNx)))
end CS
set_option Elab.async false
set_option linter.all false
set_option maxRecDepth 100000
set_option maxHeartbeats 4000000
set_option autoImplicit false
set_option exponentiation.threshold 400
namespace CS
open PySem PySem.Spec PyProof.Rows L2
theorem q_cell {x0 x1 x2 S : D} {src c c2 is : List D} {o3 : Option W} {o4 o5 o6 u4 u5 u6 : Option D} {kz nz : Bool} (h1 : gm_law_source [x2, x1] = some src) (h2 : rng1 [.int 3] = some is)
    (h3 : forL (bd 4) s_lap is [some (.d x0), some (.d x1), some (.d x2), some (.m src), Od o4, Od o5, Od o6] = some (.nx, [some (.d x0), some (.d x1), some (.d x2), some (.m c), Od u4, Od u5, Od u6]))
    (h4 : gEq x1 (.int 0) = some (.bool kz)) (h5 : gNeS x0 (.list []) = some (.bool nz)) (h6 : gm_law_spans c [.int 8, .int 9] = some (S, c2)) (h7 : gm_law_parties_right [S] = some (.bool true)) :
    ∃ c', s_cell [some (.d x0), some (.d x1), some (.d x2), o3, Od o4, Od o5, Od o6] = some (.nx, [some (.d x0), some (.d x1), some (.d x2), some (.m c'), Od u4, Od u5, Od u6]) := by
  unfold s_cell
  generalize s_lap = sl at *
  generalize gm_law_source = k1 at *
  generalize gm_law_spans = k2 at *
  generalize gm_law_parties_right = k3 at *
  generalize gEq = k4 at *
  generalize gNeS = k5 at *
  generalize rng1 = k6 at *
  cases kz with
  | false => exact ⟨c, by simp -implicitDefEqProofs [eb, h1, h2, h3, h4]⟩
  | true =>
    cases nz with
    | false => exact ⟨c, by simp -implicitDefEqProofs [eb, h1, h2, h3, h4, h5]⟩
    | true => exact ⟨c2, by simp -implicitDefEqProofs [eb, h1, h2, h3, h4, h5, h6, h7]⟩
theorem gNeS_scr (ns : List Int) : gNeS (scr ns) (.list []) = some (.bool (!ns.isEmpty)) := by
  show gNe (.list (ns.map .int)) (.list []) = _
  exact gNe_nil ns
theorem v_cell (ns : List Int) (k : Nat) (i : Int) (hk : k ≤ 10) {o3 : Option W} {o4 o5 o6 : Option D} :
    ∃ c' u4 u5 u6, s_cell [some (.d (scr ns)), some (.d (nt k)), some (.d (.int i)), o3, Od o4, Od o5, Od o6] = some (.nx, [some (.d (scr ns)), some (.d (nt k)), some (.d (.int i)), some (.m c'), Od u4, Od u5, Od u6]) := by
  obtain ⟨src, e1, s1⟩ := v_source i k hk
  obtain ⟨c, u4, u5, u6, s2, e2⟩ := v_laps (x0 := scr ns) (x1 := nt k) (x2 := .int i) (o4 := o4) (o5 := o5) (o6 := o6) s1
  obtain ⟨L, c2, e3, n3, b3, s3⟩ := v_spans (many := 8) (W := 9) s2 (by omega) (by omega) (by omega) (by omega)
  have h7 := v_pright (Pts_of (L := L) (M := 50 * 9) (by omega) (by omega) (by omega) b3)
  obtain ⟨c', e⟩ := q_cell (o3 := o3) (x0 := scr ns) (x1 := nt k) (x2 := .int i) e1 (rng1_nt (n := 3) (by omega)) e2 (gEq_i (k : Int) 0) (gNeS_scr ns) e3 h7
  exact ⟨c', u4, u5, u6, e⟩
end CS
set_option Elab.async false
set_option linter.all false
set_option maxRecDepth 100000
set_option maxHeartbeats 4000000
set_option autoImplicit false
set_option exponentiation.threshold 400
namespace CS
open PySem PySem.Spec PyProof.Rows L2
def enq (q : Int × Nat) : D := .tuple [nt q.2, .int q.1]
theorem v_cells (ns : List Int) (cs : List Int) (hl : cs.length ≤ 4) :
    ∃ ρ', forL (bdT 2 (bdCons (bd 1) (bdCons (bd 2) bdNil))) s_cell ((cs.zipIdx 0).map enq) [some (.d (scr ns)), none, none, none, none, none, none] = some (.nx, ρ') := by
  obtain ⟨ρ', e, _⟩ := for_inv enq (b := bdT 2 (bdCons (bd 1) (bdCons (bd 2) bdNil))) (s := s_cell)
    (fun pre ρ => ∃ (o1 o2 : Option D) (o3 : Option W) (o4 o5 o6 : Option D), ρ = [some (.d (scr ns)), Od o1, Od o2, o3, Od o4, Od o5, Od o6]) (cs.zipIdx 0)
    (ρ := [some (.d (scr ns)), none, none, none, none, none, none]) ⟨none, none, none, none, none, none, rfl⟩ (fun pre a post ρ hz ⟨o1, o2, o3, o4, o5, o6, hρ⟩ => by
      subst hρ
      have ha : a ∈ cs.zipIdx 0 := by rw [hz]; simp
      have hk := List.snd_lt_of_mem_zipIdx ha
      obtain ⟨c', u4, u5, u6, e⟩ := v_cell ns a.2 a.1 (by omega) (o3 := o3) (o4 := o4) (o5 := o5) (o6 := o6)
      refine ⟨_, _, ?_, e, some (nt a.2), some (.int a.1), some (.m c'), u4, u5, u6, rfl⟩
      generalize scr ns = x0
      unfold enq
      generalize nt a.2 = n2
      simp -implicitDefEqProofs)
  exact ⟨ρ', e⟩
theorem q_law {x0 : D} {ρ' : En} {c xs ys : List D} {n m1 m2 : Int} (h1 : gAdd x0 (.list [.int 0]) = some (.list xs)) (h2 : gLen x0 = some (.int n)) (h3 : gMin2 (.int n) (.int 4) = some (.int m1)) (h4 : gMax2 (.int 1) (.int m1) = some (.int m2)) (h5 : gSl none (some m2) (.list xs) = some (.list ys)) (h6 : enuG [.list ys] = some c)
    (h7 : forL (bdT 2 (bdCons (bd 1) (bdCons (bd 2) bdNil))) s_cell c [some (.d x0), none, none, none, none, none, none] = some (.nx, ρ'))
    (h8 : gm_law_parties_right [.list [.tuple [.int 0, .int 3], .tuple [.int 2, .int 5], .tuple [.int 3, .int 3]]] = some (.bool true)) (h9 : gm_law_long_right [.list [.tuple [.int 0, .int 1], .tuple [.int 1, .int 2], .tuple [.int 5, .int 6], .tuple [.int 6, .int 9]]] = some (.bool true)) : g_law [x0] = some (.bool true) := by
  unfold s_cell s_lap at h7
  show fnD 1 6 s_law _ = _
  rw [fnD_eq rfl]
  unfold s_law
  generalize gm_law_source = k1 at *
  generalize gm_law_spans = k2 at *
  generalize gm_law_parties_right = k3 at *
  generalize gm_law_long_right = k4 at *
  generalize gm_law_draw = k5 at *
  generalize gm_apart = k6 at *
  generalize gMin2 = k7 at *
  generalize gMax2 = k8 at *
  generalize enuG = k10 at *
  generalize gAdd = k11 at *
  generalize gLen = k12 at *
  simp -implicitDefEqProofs [eb, h1, h2, h3, h4, h5, h6, h7, h8, h9, rt_1]
theorem enq_map (cs : List Int) : enuG [.list (cs.map .int)] = some ((cs.zipIdx 0).map enq) := by
  show some (enuD 0 (cs.map .int)) = _
  rw [enuD_map]
  rfl
theorem v_law (ns : List Int) (hn : ns.length ≤ 1000) : g_law [scr ns] = some (.bool true) := by
  have h1 : gAdd (scr ns) (.list [.int 0]) = some (.list ((ns ++ [0]).map .int)) := by
    have hf : fits ((ns.map PyData.int).length + [PyData.int 0].length) = true := fits_of (by rw [List.length_map]; simp; omega)
    have : gAdd (scr ns) (.list [.int 0]) = match fits ((ns.map PyData.int).length + [PyData.int 0].length) with
      | true => some (.list (ns.map PyData.int ++ [.int 0]))
      | false => none := rfl
    rw [this, hf, List.map_append]
    rfl
  have h2 : gLen (scr ns) = some (.int (ns.length : Int)) := by
    show some (PyData.int ((ns.map PyData.int).length : Nat)) = _
    rw [List.length_map]
  have h3 : gMin2 (.int (ns.length : Int)) (.int 4) = some (.int (if 4 < (ns.length : Int) then 4 else (ns.length : Int))) := rfl
  have h4 : ∀ m1 : Int, gMax2 (.int 1) (.int m1) = some (.int (if m1 > 1 then m1 else 1)) := fun _ => rfl
  obtain ⟨m, hm, hm4⟩ : ∃ m : Nat, (if (if 4 < (ns.length : Int) then (4 : Int) else (ns.length : Int)) > 1 then (if 4 < (ns.length : Int) then (4 : Int) else (ns.length : Int)) else 1) = (m : Int) ∧ m ≤ 4 := by
    refine ⟨(if (if 4 < (ns.length : Int) then (4 : Int) else (ns.length : Int)) > 1 then (if 4 < (ns.length : Int) then (4 : Int) else (ns.length : Int)) else 1).toNat, ?_, ?_⟩ <;> split <;> split <;> omega
  have h4 := h4 (if 4 < (ns.length : Int) then 4 else (ns.length : Int))
  rw [hm] at h4
  have h5 : gSl none (some (m : Int)) (.list ((ns ++ [0]).map .int)) = some (.list (((ns ++ [0]).take m).map .int)) := by
    show some (PyData.list (cutD ((ns ++ [0]).map .int) none (some (m : Int)))) = _
    rw [cut_take, List.map_take]
  obtain ⟨ρ', e⟩ := v_cells ns ((ns ++ [0]).take m) (by rw [List.length_take]; omega)
  have p1 : Pts [((0 : Int), (3 : Int)), (2, 5), (3, 3)] := Pts_of (M := 100) (by simp) (by simp) (by omega) fun p hp => by
    simp at hp
    rcases hp with rfl | rfl | rfl <;> exact ⟨by decide, by decide, by decide⟩
  have p2 : Rgs [((0 : Int), (1 : Int)), (1, 2), (5, 6), (6, 9)] := Rgs_of (M := 100) (by simp) (by simp) fun p hp => by
    simp at hp
    rcases hp with rfl | rfl | rfl | rfl <;> exact ⟨by decide, by decide, by decide⟩
  exact q_law h1 h2 h3 h4 h5 (enq_map _) e (v_pright p1) (v_long p2 (ap_two p2.le (a := (0, 1)) (b := (5, 6)) (by simp) (by simp) (by decide)) (by simp))
end CS
set_option Elab.async false
set_option linter.all false
set_option maxRecDepth 100000
set_option maxHeartbeats 4000000
set_option autoImplicit false
namespace CS
open PySem PySem.Spec PyProof.Rows L2
structure Mg (mg : Str → Option Value) : Prop where
  b_isinstance : mg "isinstance" = none
  b_int : mg "int" = none
  b_bool : mg "bool" = none
  b_tuple : mg "tuple" = none
  b_all : mg "all" = none
  b_len : mg "len" = none
  b_abs : mg "abs" = none
  b_zip : mg "zip" = none
  b_list : mg "list" = none
  b_enumerate : mg "enumerate" = none
  b_any : mg "any" = none
  b_range : mg "range" = none
  b_max : mg "max" = none
  b_sorted : mg "sorted" = none
  b_min : mg "min" = none
  c_MOST_ITEM : ∃ t, mg "MOST_ITEM" = some (.int 20 t)
  c_MOST_UNKNOWNS : ∃ t, mg "MOST_UNKNOWNS" = some (.int 5 t)
  c_MOST_KINDS : ∃ t, mg "MOST_KINDS" = some (.int 12 t)
  c_MOST_PARTIES : ∃ t, mg "MOST_PARTIES" = some (.int 8 t)
  c_MOST_IN_PARTY : ∃ t, mg "MOST_IN_PARTY" = some (.int 12 t)
  c_MOST_RANGES : ∃ t, mg "MOST_RANGES" = some (.int 400 t)
  c_MOST_NUMBER : ∃ t, mg "MOST_NUMBER" = some (.int 1000000000000 t)
structure Ct (P : Program) (w : World) (K : PySem.W.Frag) (mg : Str → Option Value) (base : Heap) : Prop where
  m : Mg mg
  f_is_integer : ∃ f fd, FunD K "is_integer" "is_integer" (defArgs (topS 12)) (defBody (topS 12)) (defScope (topS 12)) [] [] f fd ∧ mg "is_integer" = some (.ref f)
  f_are_integers : ∃ f fd, FunD K "are_integers" "are_integers" (defArgs (topS 13)) (defBody (topS 13)) (defScope (topS 13)) [] [] f fd ∧ mg "are_integers" = some (.ref f)
  f_common : ∃ f fd, FunD K "common" "common" (defArgs (topS 14)) (defBody (topS 14)) (defScope (topS 14)) [] [] f fd ∧ mg "common" = some (.ref f)
  f_divisor_of : ∃ f fd, FunD K "divisor_of" "divisor_of" (defArgs (topS 15)) (defBody (topS 15)) (defScope (topS 15)) [] [] f fd ∧ mg "divisor_of" = some (.ref f)
  f_lowest : ∃ f fd, FunD K "lowest" "lowest" (defArgs (topS 16)) (defBody (topS 16)) (defScope (topS 16)) [] [] f fd ∧ mg "lowest" = some (.ref f)
  f_added : ∃ f fd, FunD K "added" "added" (defArgs (topS 17)) (defBody (topS 17)) (defScope (topS 17)) [] [] f fd ∧ mg "added" = some (.ref f)
  f_scaled : ∃ f fd, FunD K "scaled" "scaled" (defArgs (topS 18)) (defBody (topS 18)) (defScope (topS 18)) [] [] f fd ∧ mg "scaled" = some (.ref f)
  f_summed : ∃ f fd, FunD K "summed" "summed" (defArgs (topS 19)) (defBody (topS 19)) (defScope (topS 19)) [] [] f fd ∧ mg "summed" = some (.ref f)
  f_is_below : ∃ f fd, FunD K "is_below" "is_below" (defArgs (topS 20)) (defBody (topS 20)) (defScope (topS 20)) [] [] f fd ∧ mg "is_below" = some (.ref f)
  f_value_at : ∃ f fd, FunD K "value_at" "value_at" (defArgs (topS 21)) (defBody (topS 21)) (defScope (topS 21)) [] [] f fd ∧ mg "value_at" = some (.ref f)
  f_is_kind : ∃ f fd, FunD K "is_kind" "is_kind" (defArgs (topS 22)) (defBody (topS 22)) (defScope (topS 22)) [] [] f fd ∧ mg "is_kind" = some (.ref f)
  f_is_book : ∃ f fd, FunD K "is_book" "is_book" (defArgs (topS 23)) (defBody (topS 23)) (defScope (topS 23)) [] [] f fd ∧ mg "is_book" = some (.ref f)
  f_is_fraction : ∃ f fd, FunD K "is_fraction" "is_fraction" (defArgs (topS 24)) (defBody (topS 24)) (defScope (topS 24)) [] [] f fd ∧ mg "is_fraction" = some (.ref f)
  f_is_rule_of : ∃ f fd, FunD K "is_rule_of" "is_rule_of" (defArgs (topS 25)) (defBody (topS 25)) (defScope (topS 25)) [] [] f fd ∧ mg "is_rule_of" = some (.ref f)
  f_are_bounds : ∃ f fd, FunD K "are_bounds" "are_bounds" (defArgs (topS 26)) (defBody (topS 26)) (defScope (topS 26)) [] [] f fd ∧ mg "are_bounds" = some (.ref f)
  f_need_book : ∃ f fd, FunD K "need_book" "need_book" (defArgs (topS 27)) (defBody (topS 27)) (defScope (topS 27)) [] [] f fd ∧ mg "need_book" = some (.ref f)
  f_need_world : ∃ f fd, FunD K "need_world" "need_world" (defArgs (topS 28)) (defBody (topS 28)) (defScope (topS 28)) [] [] f fd ∧ mg "need_world" = some (.ref f)
  f_need_number : ∃ f fd, FunD K "need_number" "need_number" (defArgs (topS 29)) (defBody (topS 29)) (defScope (topS 29)) [] [] f fd ∧ mg "need_number" = some (.ref f)
  f_least_bounds : ∃ f fd, FunD K "least_bounds" "least_bounds" (defArgs (topS 30)) (defBody (topS 30)) (defScope (topS 30)) [] [] f fd ∧ mg "least_bounds" = some (.ref f)
  f_against : ∃ f fd, FunD K "against" "against" (defArgs (topS 32)) (defBody (topS 32)) (defScope (topS 32)) [] [] f fd ∧ mg "against" = some (.ref f)
  f_row_of : ∃ f fd, FunD K "row_of" "row_of" (defArgs (topS 33)) (defBody (topS 33)) (defScope (topS 33)) [] [] f fd ∧ mg "row_of" = some (.ref f)
  f_with_row : ∃ f fd, FunD K "with_row" "with_row" (defArgs (topS 34)) (defBody (topS 34)) (defScope (topS 34)) [] [] f fd ∧ mg "with_row" = some (.ref f)
  f_ways_behind : ∃ f fd, FunD K "ways_behind" "ways_behind" (defArgs (topS 35)) (defBody (topS 35)) (defScope (topS 35)) [] [] f fd ∧ mg "ways_behind" = some (.ref f)
  f_positive_ways : ∃ f fd, FunD K "positive_ways" "positive_ways" (defArgs (topS 36)) (defBody (topS 36)) (defScope (topS 36)) [] [] f fd ∧ mg "positive_ways" = some (.ref f)
  f_knots_behind : ∃ f fd, FunD K "knots_behind" "knots_behind" (defArgs (topS 37)) (defBody (topS 37)) (defScope (topS 37)) [] [] f fd ∧ mg "knots_behind" = some (.ref f)
  f_knots_of : ∃ f fd, FunD K "knots_of" "knots_of" (defArgs (topS 38)) (defBody (topS 38)) (defScope (topS 38)) [] [] f fd ∧ mg "knots_of" = some (.ref f)
  f_knots_in : ∃ f fd, FunD K "knots_in" "knots_in" (defArgs (topS 39)) (defBody (topS 39)) (defScope (topS 39)) [] [] f fd ∧ mg "knots_in" = some (.ref f)
  f_sum_in : ∃ f fd, FunD K "sum_in" "sum_in" (defArgs (topS 40)) (defBody (topS 40)) (defScope (topS 40)) [] [] f fd ∧ mg "sum_in" = some (.ref f)
  f_is_broken : ∃ f fd, FunD K "is_broken" "is_broken" (defArgs (topS 41)) (defBody (topS 41)) (defScope (topS 41)) [] [] f fd ∧ mg "is_broken" = some (.ref f)
  f_point_of_rows : ∃ f fd, FunD K "point_of_rows" "point_of_rows" (defArgs (topS 42)) (defBody (topS 42)) (defScope (topS 42)) [] [] f fd ∧ mg "point_of_rows" = some (.ref f)
  f_within_bounds : ∃ f fd, FunD K "within_bounds" "within_bounds" (defArgs (topS 43)) (defBody (topS 43)) (defScope (topS 43)) [] [] f fd ∧ mg "within_bounds" = some (.ref f)
  f_face_point : ∃ f fd, FunD K "face_point" "face_point" (defArgs (topS 44)) (defBody (topS 44)) (defScope (topS 44)) [] [] f fd ∧ mg "face_point" = some (.ref f)
  f_some_point : ∃ f fd, FunD K "some_point" "some_point" (defArgs (topS 45)) (defBody (topS 45)) (defScope (topS 45)) [] [] f fd ∧ mg "some_point" = some (.ref f)
  f_taken : ∃ f fd, FunD K "taken" "taken" (defArgs (topS 47)) (defBody (topS 47)) (defScope (topS 47)) [] [] f fd ∧ mg "taken" = some (.ref f)
  f_greatest_in : ∃ f fd, FunD K "greatest_in" "greatest_in" (defArgs (topS 48)) (defBody (topS 48)) (defScope (topS 48)) [] [] f fd ∧ mg "greatest_in" = some (.ref f)
  f_need_points : ∃ f fd, FunD K "need_points" "need_points" (defArgs (topS 49)) (defBody (topS 49)) (defScope (topS 49)) [] [] f fd ∧ mg "need_points" = some (.ref f)
  f_need_one : ∃ f fd, FunD K "need_one" "need_one" (defArgs (topS 51)) (defBody (topS 51)) (defScope (topS 51)) [] [] f fd ∧ mg "need_one" = some (.ref f)
  f_tight_in : ∃ f fd, FunD K "tight_in" "tight_in" (defArgs (topS 52)) (defBody (topS 52)) (defScope (topS 52)) [] [] f fd ∧ mg "tight_in" = some (.ref f)
  f_tight : ∃ f fd, FunD K "tight" "tight" (defArgs (topS 53)) (defBody (topS 53)) (defScope (topS 53)) [] [] f fd ∧ mg "tight" = some (.ref f)
  f_meets : ∃ f fd, FunD K "meets" "meets" (defArgs (topS 55)) (defBody (topS 55)) (defScope (topS 55)) [] [] f fd ∧ mg "meets" = some (.ref f)
  f_is_party : ∃ f fd, FunD K "is_party" "is_party" (defArgs (topS 59)) (defBody (topS 59)) (defScope (topS 59)) [] [] f fd ∧ mg "is_party" = some (.ref f)
  f_need_parties : ∃ f fd, FunD K "need_parties" "need_parties" (defArgs (topS 60)) (defBody (topS 60)) (defScope (topS 60)) [] [] f fd ∧ mg "need_parties" = some (.ref f)
  f_need_book_and_parties : ∃ f fd, FunD K "need_book_and_parties" "need_book_and_parties" (defArgs (topS 61)) (defBody (topS 61)) (defScope (topS 61)) [] [] f fd ∧ mg "need_book_and_parties" = some (.ref f)
  f_bounds_of : ∃ f fd, FunD K "bounds_of" "bounds_of" (defArgs (topS 62)) (defBody (topS 62)) (defScope (topS 62)) [] [] f fd ∧ mg "bounds_of" = some (.ref f)
  f_all_sets : ∃ f fd, FunD K "all_sets" "all_sets" (defArgs (topS 63)) (defBody (topS 63)) (defScope (topS 63)) [] [] f fd ∧ mg "all_sets" = some (.ref f)
  f_sets_by : ∃ f fd, FunD K "sets_by" "sets_by" (defArgs (topS 64)) (defBody (topS 64)) (defScope (topS 64)) [] [] f fd ∧ mg "sets_by" = some (.ref f)
  f_clashing_sets : ∃ f fd, FunD K "clashing_sets" "clashing_sets" (defArgs (topS 65)) (defBody (topS 65)) (defScope (topS 65)) [] [] f fd ∧ mg "clashing_sets" = some (.ref f)
  f_meeting_sets : ∃ f fd, FunD K "meeting_sets" "meeting_sets" (defArgs (topS 66)) (defBody (topS 66)) (defScope (topS 66)) [] [] f fd ∧ mg "meeting_sets" = some (.ref f)
  f_all_meet : ∃ f fd, FunD K "all_meet" "all_meet" (defArgs (topS 67)) (defBody (topS 67)) (defScope (topS 67)) [] [] f fd ∧ mg "all_meet" = some (.ref f)
  f_party_clashes : ∃ f fd, FunD K "party_clashes" "party_clashes" (defArgs (topS 68)) (defBody (topS 68)) (defScope (topS 68)) [] [] f fd ∧ mg "party_clashes" = some (.ref f)
  f_crowds : ∃ f fd, FunD K "crowds" "crowds" (defArgs (topS 69)) (defBody (topS 69)) (defScope (topS 69)) [] [] f fd ∧ mg "crowds" = some (.ref f)
  f_fewest_parties_out : ∃ f fd, FunD K "fewest_parties_out" "fewest_parties_out" (defArgs (topS 70)) (defBody (topS 70)) (defScope (topS 70)) [] [] f fd ∧ mg "fewest_parties_out" = some (.ref f)
  f_meeting_place : ∃ f fd, FunD K "meeting_place" "meeting_place" (defArgs (topS 71)) (defBody (topS 71)) (defScope (topS 71)) [] [] f fd ∧ mg "meeting_place" = some (.ref f)
  f_combined : ∃ f fd, FunD K "combined" "combined" (defArgs (topS 72)) (defBody (topS 72)) (defScope (topS 72)) [] [] f fd ∧ mg "combined" = some (.ref f)
  f_with_items : ∃ f fd, FunD K "with_items" "with_items" (defArgs (topS 74)) (defBody (topS 74)) (defScope (topS 74)) [] [] f fd ∧ mg "with_items" = some (.ref f)
  f_boxes : ∃ f fd, FunD K "boxes" "boxes" (defArgs (topS 75)) (defBody (topS 75)) (defScope (topS 75)) [] [] f fd ∧ mg "boxes" = some (.ref f)
  f_need_ranges : ∃ f fd, FunD K "need_ranges" "need_ranges" (defArgs (topS 79)) (defBody (topS 79)) (defScope (topS 79)) [] [] f fd ∧ mg "need_ranges" = some (.ref f)
  f_crowd_in : ∃ f fd, FunD K "crowd_in" "crowd_in" (defArgs (topS 80)) (defBody (topS 80)) (defScope (topS 80)) [] [] f fd ∧ mg "crowd_in" = some (.ref f)
  f_pairs_by : ∃ f fd, FunD K "pairs_by" "pairs_by" (defArgs (topS 81)) (defBody (topS 81)) (defScope (topS 81)) [] [] f fd ∧ mg "pairs_by" = some (.ref f)
  f_by_ends : ∃ f fd, FunD K "by_ends" "by_ends" (defArgs (topS 82)) (defBody (topS 82)) (defScope (topS 82)) [] [] f fd ∧ mg "by_ends" = some (.ref f)
  f_apart_in : ∃ f fd, FunD K "apart_in" "apart_in" (defArgs (topS 83)) (defBody (topS 83)) (defScope (topS 83)) [] [] f fd ∧ mg "apart_in" = some (.ref f)
  f_roomed : ∃ f fd, FunD K "roomed" "roomed" (defArgs (topS 84)) (defBody (topS 84)) (defScope (topS 84)) [] [] f fd ∧ mg "roomed" = some (.ref f)
  f_depth_of : ∃ f fd, FunD K "depth_of" "depth_of" (defArgs (topS 85)) (defBody (topS 85)) (defScope (topS 85)) [] [] f fd ∧ mg "depth_of" = some (.ref f)
  f_meeting_pairs : ∃ f fd, FunD K "meeting_pairs" "meeting_pairs" (defArgs (topS 86)) (defBody (topS 86)) (defScope (topS 86)) [] [] f fd ∧ mg "meeting_pairs" = some (.ref f)
  f_forced_depth : ∃ f fd, FunD K "forced_depth" "forced_depth" (defArgs (topS 87)) (defBody (topS 87)) (defScope (topS 87)) [] [] f fd ∧ mg "forced_depth" = some (.ref f)
  f_apart : ∃ f fd, FunD K "apart" "apart" (defArgs (topS 88)) (defBody (topS 88)) (defScope (topS 88)) [] [] f fd ∧ mg "apart" = some (.ref f)
  f_hitting : ∃ f fd, FunD K "hitting" "hitting" (defArgs (topS 89)) (defBody (topS 89)) (defScope (topS 89)) [] [] f fd ∧ mg "hitting" = some (.ref f)
  f_have_meetings : ∃ f fd, FunD K "have_meetings" "have_meetings" (defArgs (topS 90)) (defBody (topS 90)) (defScope (topS 90)) [] [] f fd ∧ mg "have_meetings" = some (.ref f)
  f_fewest_left : ∃ f fd, FunD K "fewest_left" "fewest_left" (defArgs (topS 91)) (defBody (topS 91)) (defScope (topS 91)) [] [] f fd ∧ mg "fewest_left" = some (.ref f)
  f_law_source : ∃ f fd, FunD K "_law_source" "_law_source" (defArgs (topS 93)) (defBody (topS 93)) (defScope (topS 93)) [] [] f fd ∧ mg "_law_source" = some (.ref f)
  f_law_draw : ∃ f fd, FunD K "_law_draw" "_law_draw" (defArgs (topS 94)) (defBody (topS 94)) (defScope (topS 94)) [] [] f fd ∧ mg "_law_draw" = some (.ref f)
  f_law_spans : ∃ f fd, FunD K "_law_spans" "_law_spans" (defArgs (topS 95)) (defBody (topS 95)) (defScope (topS 95)) [] [] f fd ∧ mg "_law_spans" = some (.ref f)
  f_law_parties_right : ∃ f fd, FunD K "_law_parties_right" "_law_parties_right" (defArgs (topS 96)) (defBody (topS 96)) (defScope (topS 96)) [] [] f fd ∧ mg "_law_parties_right" = some (.ref f)
  f_law_long_right : ∃ f fd, FunD K "_law_long_right" "_law_long_right" (defArgs (topS 97)) (defBody (topS 97)) (defScope (topS 97)) [] [] f fd ∧ mg "_law_long_right" = some (.ref f)
  f_law : ∃ f fd, FunD K "law" "law" (defArgs (topS 98)) (defBody (topS 98)) (defScope (topS 98)) [] [] f fd ∧ mg "law" = some (.ref f)
end CS
set_option Elab.async false
set_option linter.all false
set_option maxRecDepth 100000
set_option maxHeartbeats 4000000
set_option autoImplicit false
namespace CS
open PySem PySem.Spec PyProof.Rows L2
section
variable {P : Program} {w : World} {K : PySem.W.Frag} {mg : Str → Option Value} {base : Heap}
theorem sc_is_integer : FnScope ["value"] ["value"] (defScope (topS 12)) := ⟨rfl, rfl, rfl, by decide +kernel, rfl, by decide +kernel, by decide +kernel⟩
theorem b_is_integer (m : Mg mg)  : BodyOk P w K mg base ["value"] "is_integer" (topS 12) 0 [] s_is_integer := fun f cdv A outer sh H hr => by
  have nd := sc_is_integer.nd
  exact (sone (sret (dandV (disi (T := "int") (by decide) (by rfl) m.b_isinstance (by rfl) m.b_int (by decide +kernel) (db (dv (pv 0)))) (dandV1 (dnotV (disi (T := "bool") (by decide) (by rfl) m.b_isinstance (by rfl) m.b_bool (by decide +kernel) (db (dv (pv 0)))))))))
theorem k_is_integer (c : Ct P w K mg base) : Has P w K mg base "is_integer" 1 1 (spD K g_is_integer) := by
  obtain ⟨f, fd, F, gm⟩ := c.f_is_integer
  exact hasD 1 0 F sc_is_integer gm (F.bindsN fun _ _ _ _ _ _ us hl => match us, hl with | [_], _ => rfl) rfl rfl (b_is_integer c.m )
theorem h_is_integer (c : Ct P w K mg base) : Has P w K mg base "is_integer" 1 1 (spD K gm_is_integer) := k_is_integer c
theorem sc_are_integers : FnScope ["value", "many", "one"] ["value", "many"] (defScope (topS 13)) := ⟨rfl, rfl, rfl, by decide +kernel, rfl, by decide +kernel, by decide +kernel⟩
theorem b_are_integers (m : Mg mg) (h_is_integer : Has P w K mg base "is_integer" 1 1 (spD K gm_is_integer)) : BodyOk P w K mg base ["value", "many", "one"] "are_integers" (topS 13) 1 [] s_are_integers := fun f cdv A outer sh H hr => by
  have nd := sc_are_integers.nd
  exact (sone (sret (dandV (disi (T := "tuple") (by decide) (by rfl) m.b_isinstance (by rfl) m.b_tuple (by decide +kernel) (db (dv (pv 0)))) (dandV (dc o_eq (op_eqD hr.units) (dB1 o_len call_len (by rfl) m.b_len (by decide +kernel) (db (dv (pv 0)))) (db (dv (pv 1))) (nomark _)) (dandV1 (dB1 o_all (cr_all rfl) (by rfl) m.b_all (by decide +kernel) (db (dL (dlc rfl nd (iseq (dv (pv 0))) (blkOk_by (own := [("one", 2)]) (by kernel_rfl)) (fun _ _ _ _ _ => (pg_name (i := 2) nd rfl (by first | exact Or.inl rfl | exact Or.inr rfl))) (gname (by decide)) (fun _ _ _ _ _ => pts_nil) (fun _ _ _ h => w_yes h) (fun _ _ _ _ _ => (dcall h_is_integer hr (by rfl) (acons (dv (pv 2)) anil) )))))))))))
theorem k_are_integers (c : Ct P w K mg base) : Has P w K mg base "are_integers" 2 2 (spD K g_are_integers) := by
  obtain ⟨f, fd, F, gm⟩ := c.f_are_integers
  exact hasD 2 1 F sc_are_integers gm (F.bindsN fun _ _ _ _ _ _ us hl => match us, hl with | [_, _], _ => rfl) rfl rfl (b_are_integers c.m (h_is_integer c))
theorem h_are_integers (c : Ct P w K mg base) : Has P w K mg base "are_integers" 2 2 (spD K gm_are_integers) := k_are_integers c
theorem sc_common : FnScope ["one", "other"] ["one", "other"] (defScope (topS 14)) := ⟨rfl, rfl, rfl, by decide +kernel, rfl, by decide +kernel, by decide +kernel⟩
theorem b_common (m : Mg mg)  : BodyOk P w K mg base ["one", "other"] "common" (topS 14) 0 [] s_common := fun f cdv A outer sh H hr => by
  have nd := sc_common.nd
  exact (scons (spar2 (i := 0) (j := 1) (ia := (Itm.e (e1 gAbs (eV 0)))) (ib := (Itm.e (e1 gAbs (eV 1)))) rfl nd rfl rfl (by decide) rfl rfl (by decide) (dB1 o_abs call_abs (by rfl) m.b_abs (by decide +kernel) (db (dv (pv 0)))) (dB1 o_abs call_abs (by rfl) m.b_abs (by decide +kernel) (db (dv (pv 1)))) (by rfl))
  (scons (swh (fun _ _ h => h) (dct o_B op_gt (dv (pv 1)) (db dint) (nomark _)) (sone (spar2 (i := 0) (j := 1) (ia := (Itm.e (eV 1))) (ib := (Itm.e (e2 gMod (eV 0) (eV 1)))) rfl nd rfl rfl (by decide) rfl rfl (by decide) (dv (pv 1)) (d2 o_mod op_modN (dv (pv 0)) (db (dv (pv 1)))) (by rfl))))
  (sone (sret (dv (pv 0))))))
theorem k_common (c : Ct P w K mg base) : Has P w K mg base "common" 2 1 (spD K g_common) := by
  obtain ⟨f, fd, F, gm⟩ := c.f_common
  exact hasD 2 0 F sc_common gm (F.bindsN fun _ _ _ _ _ _ us hl => match us, hl with | [_, _], _ => rfl) rfl rfl (b_common c.m )
theorem h_common (c : Ct P w K mg base) : Has P w K mg base "common" 2 1 (spD K gm_common) := (k_common c).subD m_common
theorem sc_divisor_of : FnScope ["numbers", "found", "number"] ["numbers"] (defScope (topS 15)) := ⟨rfl, rfl, rfl, by decide +kernel, rfl, by decide +kernel, by decide +kernel⟩
theorem b_divisor_of (m : Mg mg) (h_common : Has P w K mg base "common" 2 1 (spD K gm_common)) : BodyOk P w K mg base ["numbers", "found", "number"] "divisor_of" (topS 15) 1 [] s_divisor_of := fun f cdv A outer sh H hr => by
  have nd := sc_divisor_of.nd
  exact (scons (sset1 (ps_set (i := 1) nd rfl (by first | exact Or.inl rfl | exact Or.inr rfl) dint))
  (scons (sfor (vs := [2]) rfl (iseq (dv (pv 0))) (pg_name (i := 2) nd rfl (by first | exact Or.inl rfl | exact Or.inr rfl)) (gname (by decide)) (sone (sset1 (ps_set (i := 1) nd rfl (by first | exact Or.inl rfl | exact Or.inr rfl) (dcall h_common hr (by rfl) (acons (dv (pv 1)) (acons (dv (pv 2)) anil)) )))))
  (sone (sret (dv (pv 1))))))
theorem k_divisor_of (c : Ct P w K mg base) : Has P w K mg base "divisor_of" 1 2 (spD K g_divisor_of) := by
  obtain ⟨f, fd, F, gm⟩ := c.f_divisor_of
  exact hasD 1 2 F sc_divisor_of gm (F.bindsN fun _ _ _ _ _ _ us hl => match us, hl with | [_], _ => rfl) rfl rfl (b_divisor_of c.m (h_common c))
theorem h_divisor_of (c : Ct P w K mg base) : Has P w K mg base "divisor_of" 1 2 (spD K gm_divisor_of) := k_divisor_of c
theorem sc_lowest : FnScope ["top", "bottom", "least"] ["top", "bottom"] (defScope (topS 16)) := ⟨rfl, rfl, rfl, by decide +kernel, rfl, by decide +kernel, by decide +kernel⟩
theorem b_lowest (m : Mg mg) (h_common : Has P w K mg base "common" 2 1 (spD K gm_common)) : BodyOk P w K mg base ["top", "bottom", "least"] "lowest" (topS 16) 1 [] s_lowest := fun f cdv A outer sh H hr => by
  have nd := sc_lowest.nd
  exact (scons (sset1 (ps_set (i := 2) nd rfl (by first | exact Or.inl rfl | exact Or.inr rfl) (dcall h_common hr (by rfl) (acons (dv (pv 0)) (acons (dv (pv 1)) anil)) )))
  (scons (sif (dct o_lt (op_ltX hr.units0) (dv (pv 1)) (db dint) (nomark _)) (sone (sset1 (ps_set (i := 2) nd rfl (by first | exact Or.inl rfl | exact Or.inr rfl) (dneg (db (dv (pv 2))))))) snil)
  (sone (sret (dtup (acons (d2 o_fdiv op_fdivX (dv (pv 0)) (db (dv (pv 2)))) (acons (d2 o_fdiv op_fdivX (dv (pv 1)) (db (dv (pv 2)))) anil)))))))
theorem k_lowest (c : Ct P w K mg base) : Has P w K mg base "lowest" 2 2 (spD K g_lowest) := by
  obtain ⟨f, fd, F, gm⟩ := c.f_lowest
  exact hasD 2 1 F sc_lowest gm (F.bindsN fun _ _ _ _ _ _ us hl => match us, hl with | [_, _], _ => rfl) rfl rfl (b_lowest c.m (h_common c))
theorem h_lowest (c : Ct P w K mg base) : Has P w K mg base "lowest" 2 2 (spD K gm_lowest) := k_lowest c
theorem sc_added : FnScope ["one", "other"] ["one", "other"] (defScope (topS 17)) := ⟨rfl, rfl, rfl, by decide +kernel, rfl, by decide +kernel, by decide +kernel⟩
theorem b_added (m : Mg mg) (h_lowest : Has P w K mg base "lowest" 2 2 (spD K gm_lowest)) : BodyOk P w K mg base ["one", "other"] "added" (topS 17) 2 [] s_added := fun f cdv A outer sh H hr => by
  have nd := sc_added.nd
  exact (sone (sret (dcall h_lowest hr (by rfl) (acons (d2 o_add op_addX (d2 o_mul op_mulX (dix (dv (pv 0)) (db dint) (fun _ _ => rfl)) (db (dix (dv (pv 1)) (db dint) (fun _ _ => rfl)))) (db (d2 o_mul op_mulX (dix (dv (pv 1)) (db dint) (fun _ _ => rfl)) (db (dix (dv (pv 0)) (db dint) (fun _ _ => rfl)))))) (acons (d2 o_mul op_mulX (dix (dv (pv 0)) (db dint) (fun _ _ => rfl)) (db (dix (dv (pv 1)) (db dint) (fun _ _ => rfl)))) anil)) )))
theorem k_added (c : Ct P w K mg base) : Has P w K mg base "added" 2 3 (spD K g_added) := by
  obtain ⟨f, fd, F, gm⟩ := c.f_added
  exact hasD 2 0 F sc_added gm (F.bindsN fun _ _ _ _ _ _ us hl => match us, hl with | [_, _], _ => rfl) rfl rfl (b_added c.m (h_lowest c))
theorem h_added (c : Ct P w K mg base) : Has P w K mg base "added" 2 3 (spD K gm_added) := k_added c
theorem sc_scaled : FnScope ["factor", "one"] ["factor", "one"] (defScope (topS 18)) := ⟨rfl, rfl, rfl, by decide +kernel, rfl, by decide +kernel, by decide +kernel⟩
theorem b_scaled (m : Mg mg) (h_lowest : Has P w K mg base "lowest" 2 2 (spD K gm_lowest)) : BodyOk P w K mg base ["factor", "one"] "scaled" (topS 18) 2 [] s_scaled := fun f cdv A outer sh H hr => by
  have nd := sc_scaled.nd
  exact (sone (sret (dcall h_lowest hr (by rfl) (acons (d2 o_mul op_mulX (dv (pv 0)) (db (dix (dv (pv 1)) (db dint) (fun _ _ => rfl)))) (acons (dix (dv (pv 1)) (db dint) (fun _ _ => rfl)) anil)) )))
theorem k_scaled (c : Ct P w K mg base) : Has P w K mg base "scaled" 2 3 (spD K g_scaled) := by
  obtain ⟨f, fd, F, gm⟩ := c.f_scaled
  exact hasD 2 0 F sc_scaled gm (F.bindsN fun _ _ _ _ _ _ us hl => match us, hl with | [_, _], _ => rfl) rfl rfl (b_scaled c.m (h_lowest c))
theorem h_scaled (c : Ct P w K mg base) : Has P w K mg base "scaled" 2 3 (spD K gm_scaled) := k_scaled c
theorem sc_summed : FnScope ["fractions", "found", "one"] ["fractions"] (defScope (topS 19)) := ⟨rfl, rfl, rfl, by decide +kernel, rfl, by decide +kernel, by decide +kernel⟩
theorem b_summed (m : Mg mg) (h_added : Has P w K mg base "added" 2 3 (spD K gm_added)) : BodyOk P w K mg base ["fractions", "found", "one"] "summed" (topS 19) 3 [] s_summed := fun f cdv A outer sh H hr => by
  have nd := sc_summed.nd
  exact (scons (sset1 (ps_set (i := 1) nd rfl (by first | exact Or.inl rfl | exact Or.inr rfl) (dtup (acons dint (acons dint anil)))))
  (scons (sfor (vs := [2]) rfl (iseq (dv (pv 0))) (pg_name (i := 2) nd rfl (by first | exact Or.inl rfl | exact Or.inr rfl)) (gname (by decide)) (sone (sset1 (ps_set (i := 1) nd rfl (by first | exact Or.inl rfl | exact Or.inr rfl) (dcall h_added hr (by rfl) (acons (dv (pv 1)) (acons (dv (pv 2)) anil)) )))))
  (sone (sret (dv (pv 1))))))
theorem k_summed (c : Ct P w K mg base) : Has P w K mg base "summed" 1 4 (spD K g_summed) := by
  obtain ⟨f, fd, F, gm⟩ := c.f_summed
  exact hasD 1 2 F sc_summed gm (F.bindsN fun _ _ _ _ _ _ us hl => match us, hl with | [_], _ => rfl) rfl rfl (b_summed c.m (h_added c))
theorem h_summed (c : Ct P w K mg base) : Has P w K mg base "summed" 1 4 (spD K gm_summed) := k_summed c
theorem sc_is_below : FnScope ["one", "other"] ["one", "other"] (defScope (topS 20)) := ⟨rfl, rfl, rfl, by decide +kernel, rfl, by decide +kernel, by decide +kernel⟩
theorem b_is_below (m : Mg mg)  : BodyOk P w K mg base ["one", "other"] "is_below" (topS 20) 0 [] s_is_below := fun f cdv A outer sh H hr => by
  have nd := sc_is_below.nd
  exact (sone (sret (dc o_lt (op_ltX hr.units0) (d2 o_mul op_mulX (dix (dv (pv 0)) (db dint) (fun _ _ => rfl)) (db (dix (dv (pv 1)) (db dint) (fun _ _ => rfl)))) (db (d2 o_mul op_mulX (dix (dv (pv 1)) (db dint) (fun _ _ => rfl)) (db (dix (dv (pv 0)) (db dint) (fun _ _ => rfl))))) (nomark _))))
theorem k_is_below (c : Ct P w K mg base) : Has P w K mg base "is_below" 2 1 (spD K g_is_below) := by
  obtain ⟨f, fd, F, gm⟩ := c.f_is_below
  exact hasD 2 0 F sc_is_below gm (F.bindsN fun _ _ _ _ _ _ us hl => match us, hl with | [_, _], _ => rfl) rfl rfl (b_is_below c.m )
theorem h_is_below (c : Ct P w K mg base) : Has P w K mg base "is_below" 2 1 (spD K gm_is_below) := k_is_below c
theorem sc_value_at : FnScope ["vector", "point", "number", "part"] ["vector", "point"] (defScope (topS 21)) := ⟨rfl, rfl, rfl, by decide +kernel, rfl, by decide +kernel, by decide +kernel⟩
theorem b_value_at (m : Mg mg) (h_summed : Has P w K mg base "summed" 1 4 (spD K gm_summed)) (h_scaled : Has P w K mg base "scaled" 2 3 (spD K gm_scaled)) : BodyOk P w K mg base ["vector", "point", "number", "part"] "value_at" (topS 21) 4 [] s_value_at := fun f cdv A outer sh H hr => by
  have nd := sc_value_at.nd
  exact (sone (sret (dcall h_summed hr (by rfl) (acons (dL (dlc rfl nd (izip (by rfl) m.b_zip (acons (dv (pv 0)) (acons (dv (pv 1)) anil))) (blkOk_by (own := [("number", 2), ("part", 3)]) (by kernel_rfl)) (fun _ _ _ _ _ => (pg_tup rfl (pgs_cons (pg_name (i := 2) nd rfl (by first | exact Or.inl rfl | exact Or.inr rfl)) (pgs_cons (pg_name (i := 3) nd rfl (by first | exact Or.inl rfl | exact Or.inr rfl)) pgs_nil)))) (gtup (gcons (gname (by decide)) (gcons (gname (by decide)) gnil))) (fun _ _ _ _ _ => pts_nil) (fun _ _ _ h => w_yes h) (fun _ _ _ _ _ => (dcall h_scaled hr (by rfl) (acons (dv (pv 2)) (acons (dv (pv 3)) anil)) )))) anil) )))
theorem k_value_at (c : Ct P w K mg base) : Has P w K mg base "value_at" 2 5 (spD K g_value_at) := by
  obtain ⟨f, fd, F, gm⟩ := c.f_value_at
  exact hasD 2 2 F sc_value_at gm (F.bindsN fun _ _ _ _ _ _ us hl => match us, hl with | [_, _], _ => rfl) rfl rfl (b_value_at c.m (h_summed c) (h_scaled c))
theorem h_value_at (c : Ct P w K mg base) : Has P w K mg base "value_at" 2 5 (spD K gm_value_at) := k_value_at c
theorem sc_is_kind : FnScope ["value", "one"] ["value"] (defScope (topS 22)) := ⟨rfl, rfl, rfl, by decide +kernel, rfl, by decide +kernel, by decide +kernel⟩
theorem b_is_kind (m : Mg mg) (h_are_integers : Has P w K mg base "are_integers" 2 2 (spD K gm_are_integers)) (h_divisor_of : Has P w K mg base "divisor_of" 1 2 (spD K gm_divisor_of)) : BodyOk P w K mg base ["value", "one"] "is_kind" (topS 22) 2 [] s_is_kind := fun f cdv A outer sh H hr => by
  have nd := sc_is_kind.nd
  exact (scons (sif (PW.pt (dor (dnot (dT (disi (T := "tuple") (by decide) (by rfl) m.b_isinstance (by rfl) m.b_tuple (by decide +kernel) (db (dv (pv 0)))))) (dor (dnot (dcht o_B o_B op_le op_le dint (dB1 o_len call_len (by rfl) m.b_len (by decide +kernel) (db (dv (pv 0)))) (db (dglobI (by rfl) m.c_MOST_UNKNOWNS)))) (dor1 (dnot (dT (dcall h_are_integers hr (by rfl) (acons (dv (pv 0)) (acons (dB1 o_len call_len (by rfl) m.b_len (by decide +kernel) (db (dv (pv 0)))) anil)) ))))))) (sone (sret dbl)) snil)
  (sone (sret (dandV (dB1 o_all (cr_all rfl) (by rfl) m.b_all (by decide +kernel) (db (dL (dlc rfl nd (iseq (dv (pv 0))) (blkOk_by (own := [("one", 1)]) (by kernel_rfl)) (fun _ _ _ _ _ => (pg_name (i := 1) nd rfl (by first | exact Or.inl rfl | exact Or.inr rfl))) (gname (by decide)) (fun _ _ _ _ _ => pts_nil) (fun _ _ _ h => w_yes h) (fun _ _ _ _ _ => (dc o_B op_le (dB1 o_abs call_abs (by rfl) m.b_abs (by decide +kernel) (db (dv (pv 1)))) (db (dglobI (by rfl) m.c_MOST_ITEM)) (nomark _))))))) (dandV1 (dc o_eq (op_eqD hr.units) (dcall h_divisor_of hr (by rfl) (acons (dv (pv 0)) anil) ) (db dint) (nomark _)))))))
theorem k_is_kind (c : Ct P w K mg base) : Has P w K mg base "is_kind" 1 3 (spD K g_is_kind) := by
  obtain ⟨f, fd, F, gm⟩ := c.f_is_kind
  exact hasD 1 1 F sc_is_kind gm (F.bindsN fun _ _ _ _ _ _ us hl => match us, hl with | [_], _ => rfl) rfl rfl (b_is_kind c.m (h_are_integers c) (h_divisor_of c))
theorem h_is_kind (c : Ct P w K mg base) : Has P w K mg base "is_kind" 1 3 (spD K gm_is_kind) := k_is_kind c
theorem sc_is_book : FnScope ["value", "one", "other"] ["value"] (defScope (topS 23)) := ⟨rfl, rfl, rfl, by decide +kernel, rfl, by decide +kernel, by decide +kernel⟩
theorem b_is_book (m : Mg mg) (h_is_kind : Has P w K mg base "is_kind" 1 3 (spD K gm_is_kind)) : BodyOk P w K mg base ["value", "one", "other"] "is_book" (topS 23) 3 [] s_is_book := fun f cdv A outer sh H hr => by
  have nd := sc_is_book.nd
  exact (scons (sif (PW.pt (dor (dnot (dT (disi (T := "list") (by decide) (by rfl) m.b_isinstance (by rfl) m.b_list (by decide +kernel) (db (dv (pv 0)))))) (dor (dnot (dcht o_B o_B op_le op_le dint (dB1 o_len call_len (by rfl) m.b_len (by decide +kernel) (db (dv (pv 0)))) (db (dglobI (by rfl) m.c_MOST_KINDS)))) (dor1 (dnot (dT (dB1 o_all (cr_all rfl) (by rfl) m.b_all (by decide +kernel) (db (dL (dlc rfl nd (iseq (dv (pv 0))) (blkOk_by (own := [("one", 1)]) (by kernel_rfl)) (fun _ _ _ _ _ => (pg_name (i := 1) nd rfl (by first | exact Or.inl rfl | exact Or.inr rfl))) (gname (by decide)) (fun _ _ _ _ _ => pts_nil) (fun _ _ _ h => w_yes h) (fun _ _ _ _ _ => (dcall h_is_kind hr (by rfl) (acons (dv (pv 1)) anil) )))))))))))) (sone (sret dbl)) snil)
  (scons (sif (dnot (dT (dB1 o_all (cr_all rfl) (by rfl) m.b_all (by decide +kernel) (db (dL (dlc rfl nd (iseq (dv (pv 0))) (blkOk_by (own := [("one", 1)]) (by kernel_rfl)) (fun _ _ _ _ _ => (pg_name (i := 1) nd rfl (by first | exact Or.inl rfl | exact Or.inr rfl))) (gname (by decide)) (fun _ _ _ _ _ => pts_nil) (fun _ _ _ h => w_yes h) (fun _ _ _ _ _ => (dc o_eq (op_eqD hr.units) (dB1 o_len call_len (by rfl) m.b_len (by decide +kernel) (db (dv (pv 1)))) (db (dB1 o_len call_len (by rfl) m.b_len (by decide +kernel) (db (dix (dv (pv 0)) (db dint) (fun _ _ => rfl))))) (nomark _))))))))) (sone (sret dbl)) snil)
  (sone (sret (dB1 o_all (cr_all rfl) (by rfl) m.b_all (by decide +kernel) (db (dL (dlc rfl nd (izip (by rfl) m.b_zip (acons (dv (pv 0)) (acons (dsl (dv (pv 0)) (osome dint) onone) anil))) (blkOk_by (own := [("one", 1), ("other", 2)]) (by kernel_rfl)) (fun _ _ _ _ _ => (pg_tup rfl (pgs_cons (pg_name (i := 1) nd rfl (by first | exact Or.inl rfl | exact Or.inr rfl)) (pgs_cons (pg_name (i := 2) nd rfl (by first | exact Or.inl rfl | exact Or.inr rfl)) pgs_nil)))) (gtup (gcons (gname (by decide)) (gcons (gname (by decide)) gnil))) (fun _ _ _ _ _ => pts_nil) (fun _ _ _ h => w_yes h) (fun _ _ _ _ _ => (dc o_lt (op_ltX hr.units0) (dv (pv 1)) (db (dv (pv 2))) (nomark _)))))))))))
theorem k_is_book (c : Ct P w K mg base) : Has P w K mg base "is_book" 1 4 (spD K g_is_book) := by
  obtain ⟨f, fd, F, gm⟩ := c.f_is_book
  exact hasD 1 2 F sc_is_book gm (F.bindsN fun _ _ _ _ _ _ us hl => match us, hl with | [_], _ => rfl) rfl rfl (b_is_book c.m (h_is_kind c))
theorem h_is_book (c : Ct P w K mg base) : Has P w K mg base "is_book" 1 4 (spD K gm_is_book) := k_is_book c
theorem sc_is_fraction : FnScope ["value"] ["value"] (defScope (topS 24)) := ⟨rfl, rfl, rfl, by decide +kernel, rfl, by decide +kernel, by decide +kernel⟩
theorem b_is_fraction (m : Mg mg) (h_common : Has P w K mg base "common" 2 1 (spD K gm_common)) (h_are_integers : Has P w K mg base "are_integers" 2 2 (spD K gm_are_integers)) : BodyOk P w K mg base ["value"] "is_fraction" (topS 24) 2 [] s_is_fraction := fun f cdv A outer sh H hr => by
  have nd := sc_is_fraction.nd
  exact (sone (sret (dandV (dcall h_are_integers hr (by rfl) (acons (dv (pv 0)) (acons dint anil)) ) (dandV (dc o_B op_gt (dix (dv (pv 0)) (db dint) (fun _ _ => rfl)) (db dint) (nomark _)) (dandV1 (dc o_eq (op_eqD hr.units) (dcall h_common hr (by rfl) (acons (dix (dv (pv 0)) (db dint) (fun _ _ => rfl)) (acons (dix (dv (pv 0)) (db dint) (fun _ _ => rfl)) anil)) ) (db dint) (nomark _)))))))
theorem k_is_fraction (c : Ct P w K mg base) : Has P w K mg base "is_fraction" 1 3 (spD K g_is_fraction) := by
  obtain ⟨f, fd, F, gm⟩ := c.f_is_fraction
  exact hasD 1 0 F sc_is_fraction gm (F.bindsN fun _ _ _ _ _ _ us hl => match us, hl with | [_], _ => rfl) rfl rfl (b_is_fraction c.m (h_common c) (h_are_integers c))
theorem h_is_fraction (c : Ct P w K mg base) : Has P w K mg base "is_fraction" 1 3 (spD K gm_is_fraction) := k_is_fraction c
theorem sc_is_rule_of : FnScope ["book", "value"] ["book", "value"] (defScope (topS 25)) := ⟨rfl, rfl, rfl, by decide +kernel, rfl, by decide +kernel, by decide +kernel⟩
theorem b_is_rule_of (m : Mg mg) (h_is_integer : Has P w K mg base "is_integer" 1 1 (spD K gm_is_integer)) (h_is_fraction : Has P w K mg base "is_fraction" 1 3 (spD K gm_is_fraction)) : BodyOk P w K mg base ["book", "value"] "is_rule_of" (topS 25) 3 [] s_is_rule_of := fun f cdv A outer sh H hr => by
  have nd := sc_is_rule_of.nd
  exact (scons (sif (PW.pt (dor (dnot (dT (disi (T := "tuple") (by decide) (by rfl) m.b_isinstance (by rfl) m.b_tuple (by decide +kernel) (db (dv (pv 1)))))) (dor (dct o_ne (op_neD hr.units) (dB1 o_len call_len (by rfl) m.b_len (by decide +kernel) (db (dv (pv 1)))) (db dint) (nomark _)) (dor1 (dnot (dT (dcall h_is_integer hr (by rfl) (acons (dix (dv (pv 1)) (db dint) (fun _ _ => rfl)) anil) ))))))) (sone (sret dbl)) snil)
  (sone (sret (dandV (dch o_B o_lt op_le (op_ltX hr.units0) dint (dix (dv (pv 1)) (db dint) (fun _ _ => rfl)) (db (dB1 o_len call_len (by rfl) m.b_len (by decide +kernel) (db (dv (pv 0)))))) (dandV1 (dcall h_is_fraction hr (by rfl) (acons (dix (dv (pv 1)) (db dint) (fun _ _ => rfl)) anil) ))))))
theorem k_is_rule_of (c : Ct P w K mg base) : Has P w K mg base "is_rule_of" 2 4 (spD K g_is_rule_of) := by
  obtain ⟨f, fd, F, gm⟩ := c.f_is_rule_of
  exact hasD 2 0 F sc_is_rule_of gm (F.bindsN fun _ _ _ _ _ _ us hl => match us, hl with | [_, _], _ => rfl) rfl rfl (b_is_rule_of c.m (h_is_integer c) (h_is_fraction c))
theorem h_is_rule_of (c : Ct P w K mg base) : Has P w K mg base "is_rule_of" 2 4 (spD K gm_is_rule_of) := k_is_rule_of c
theorem sc_are_bounds : FnScope ["book", "value", "one"] ["book", "value"] (defScope (topS 26)) := ⟨rfl, rfl, rfl, by decide +kernel, rfl, by decide +kernel, by decide +kernel⟩
theorem b_are_bounds (m : Mg mg) (h_is_fraction : Has P w K mg base "is_fraction" 1 3 (spD K gm_is_fraction)) : BodyOk P w K mg base ["book", "value", "one"] "are_bounds" (topS 26) 3 [] s_are_bounds := fun f cdv A outer sh H hr => by
  have nd := sc_are_bounds.nd
  exact (scons (sif (PW.pt (dor (dnot (dT (disi (T := "list") (by decide) (by rfl) m.b_isinstance (by rfl) m.b_list (by decide +kernel) (db (dv (pv 1)))))) (dor1 (dct o_ne (op_neD hr.units) (dB1 o_len call_len (by rfl) m.b_len (by decide +kernel) (db (dv (pv 1)))) (db (dB1 o_len call_len (by rfl) m.b_len (by decide +kernel) (db (dv (pv 0))))) (nomark _))))) (sone (sret dbl)) snil)
  (sone (sret (dB1 o_all (cr_all rfl) (by rfl) m.b_all (by decide +kernel) (db (dL (dlc rfl nd (iseq (dv (pv 1))) (blkOk_by (own := [("one", 2)]) (by kernel_rfl)) (fun _ _ _ _ _ => (pg_name (i := 2) nd rfl (by first | exact Or.inl rfl | exact Or.inr rfl))) (gname (by decide)) (fun _ _ _ _ _ => pts_nil) (fun _ _ _ h => w_yes h) (fun _ _ _ _ _ => (dorV (dc o_is op_isN (dv (pv 2)) (db dnone) (nomark _)) (dandV1 (dcall h_is_fraction hr (by rfl) (acons (dv (pv 2)) anil) )))))))))))
theorem k_are_bounds (c : Ct P w K mg base) : Has P w K mg base "are_bounds" 2 4 (spD K g_are_bounds) := by
  obtain ⟨f, fd, F, gm⟩ := c.f_are_bounds
  exact hasD 2 1 F sc_are_bounds gm (F.bindsN fun _ _ _ _ _ _ us hl => match us, hl with | [_, _], _ => rfl) rfl rfl (b_are_bounds c.m (h_is_fraction c))
theorem h_are_bounds (c : Ct P w K mg base) : Has P w K mg base "are_bounds" 2 4 (spD K gm_are_bounds) := k_are_bounds c
theorem sc_need_book : FnScope ["book"] ["book"] (defScope (topS 27)) := ⟨rfl, rfl, rfl, by decide +kernel, rfl, by decide +kernel, by decide +kernel⟩
theorem b_need_book (m : Mg mg) (h_is_book : Has P w K mg base "is_book" 1 4 (spD K gm_is_book)) : BodyOk P w K mg base ["book"] "need_book" (topS 27) 4 [] s_need_book := fun f cdv A outer sh H hr => by
  have nd := sc_need_book.nd
  exact (sone (sif (dnot (dT (dcall h_is_book hr (by rfl) (acons (dv (pv 0)) anil) ))) (sone sno) snil))
theorem k_need_book (c : Ct P w K mg base) : Has P w K mg base "need_book" 1 5 (spD K g_need_book) := by
  obtain ⟨f, fd, F, gm⟩ := c.f_need_book
  exact hasD 1 0 F sc_need_book gm (F.bindsN fun _ _ _ _ _ _ us hl => match us, hl with | [_], _ => rfl) rfl rfl (b_need_book c.m (h_is_book c))
theorem h_need_book (c : Ct P w K mg base) : Has P w K mg base "need_book" 1 5 (spD K gm_need_book) := k_need_book c
theorem sc_need_world : FnScope ["book", "world"] ["book", "world"] (defScope (topS 28)) := ⟨rfl, rfl, rfl, by decide +kernel, rfl, by decide +kernel, by decide +kernel⟩
theorem b_need_world (m : Mg mg) (h_are_bounds : Has P w K mg base "are_bounds" 2 4 (spD K gm_are_bounds)) : BodyOk P w K mg base ["book", "world"] "need_world" (topS 28) 4 [] s_need_world := fun f cdv A outer sh H hr => by
  have nd := sc_need_world.nd
  exact (sone (sif (dnot (dT (dcall h_are_bounds hr (by rfl) (acons (dv (pv 0)) (acons (dv (pv 1)) anil)) ))) (sone sno) snil))
theorem k_need_world (c : Ct P w K mg base) : Has P w K mg base "need_world" 2 5 (spD K g_need_world) := by
  obtain ⟨f, fd, F, gm⟩ := c.f_need_world
  exact hasD 2 0 F sc_need_world gm (F.bindsN fun _ _ _ _ _ _ us hl => match us, hl with | [_, _], _ => rfl) rfl rfl (b_need_world c.m (h_are_bounds c))
theorem h_need_world (c : Ct P w K mg base) : Has P w K mg base "need_world" 2 5 (spD K gm_need_world) := k_need_world c
theorem sc_need_number : FnScope ["value", "low", "high"] ["value", "low", "high"] (defScope (topS 29)) := ⟨rfl, rfl, rfl, by decide +kernel, rfl, by decide +kernel, by decide +kernel⟩
theorem b_need_number (m : Mg mg) (h_is_integer : Has P w K mg base "is_integer" 1 1 (spD K gm_is_integer)) : BodyOk P w K mg base ["value", "low", "high"] "need_number" (topS 29) 1 [] s_need_number := fun f cdv A outer sh H hr => by
  have nd := sc_need_number.nd
  exact (sone (sif (PW.pt (dor (dnot (dT (dcall h_is_integer hr (by rfl) (acons (dv (pv 0)) anil) ))) (dor (dct o_lt (op_ltX hr.units0) (dv (pv 0)) (db (dv (pv 1))) (nomark _)) (dor1 (PW.pt (dand (dct o_isNot op_notN (dv (pv 2)) (db dnone) (nomark _)) (dand1 (dct o_B op_gt (dv (pv 0)) (db (dv (pv 2))) (nomark _))))))))) (sone sno) snil))
theorem k_need_number (c : Ct P w K mg base) : Has P w K mg base "need_number" 3 2 (spD K g_need_number) := by
  obtain ⟨f, fd, F, gm⟩ := c.f_need_number
  exact hasD 3 0 F sc_need_number gm (F.bindsN fun _ _ _ _ _ _ us hl => match us, hl with | [_, _, _], _ => rfl) rfl rfl (b_need_number c.m (h_is_integer c))
theorem h_need_number (c : Ct P w K mg base) : Has P w K mg base "need_number" 3 2 (spD K gm_need_number) := k_need_number c
theorem sc_least_bounds : FnScope ["book", "rules", "found", "number", "bound"] ["book", "rules"] (defScope (topS 30)) := ⟨rfl, rfl, rfl, by decide +kernel, rfl, by decide +kernel, by decide +kernel⟩
theorem b_least_bounds (m : Mg mg) (h_is_below : Has P w K mg base "is_below" 2 1 (spD K gm_is_below)) : BodyOk P w K mg base ["book", "rules", "found", "number", "bound"] "least_bounds" (topS 30) 1 [] s_least_bounds := fun f cdv A outer sh H hr => by
  have nd := sc_least_bounds.nd
  exact (scons (ssetN1 (by decide) (ps_set (i := 2) nd rfl (by first | exact Or.inl rfl | exact Or.inr rfl) (d2N o_repN op_rep (dL (dlst (acons dnone anil))) (db (dB1 o_len call_len (by rfl) m.b_len (by decide +kernel) (db (dv (pv 0))))))))
  (scons (sfor (vs := [3, 4]) rfl (iseq (dv (pv 1))) (pg_tup rfl (pgs_cons (pg_name (i := 3) nd rfl (by first | exact Or.inl rfl | exact Or.inr rfl)) (pgs_cons (pg_name (i := 4) nd rfl (by first | exact Or.inl rfl | exact Or.inr rfl)) pgs_nil))) (gtup (gcons (gname (by decide)) (gcons (gname (by decide)) gnil))) (sone (sif (PW.pt (dor (dct o_is op_isN (dixL (pv 2) (db (dv (pv 3))) (fun _ _ => rfl)) (db dnone) (nomark _)) (dor1 (dT (dcall h_is_below hr (by rfl) (acons (dv (pv 4)) (acons (dixL (pv 2) (db (dv (pv 3))) (fun _ _ => rfl)) anil)) ))))) (sone (sst (ps_asg (dv (pv 4)) (pg_sub (pv 2) (dv (pv 3)) set_list)))) snil)))
  (sone (sfz [2] (sret (dv (pv 2)))))))
theorem k_least_bounds (c : Ct P w K mg base) : Has P w K mg base "least_bounds" 2 2 (spD K g_least_bounds) := by
  obtain ⟨f, fd, F, gm⟩ := c.f_least_bounds
  exact hasD 2 3 F sc_least_bounds gm (F.bindsN fun _ _ _ _ _ _ us hl => match us, hl with | [_, _], _ => rfl) rfl rfl (b_least_bounds c.m (h_is_below c))
theorem h_least_bounds (c : Ct P w K mg base) : Has P w K mg base "least_bounds" 2 2 (spD K gm_least_bounds) := k_least_bounds c
theorem sc_against : FnScope ["basis", "vector", "rest", "scale", "found", "pivot", "row", "parts", "top", "bottom", "index", "part", "one", "other"] ["basis", "vector"] (defScope (topS 32)) := ⟨rfl, rfl, rfl, by decide +kernel, rfl, by decide +kernel, by decide +kernel⟩
theorem b_against (m : Mg mg)  : BodyOk P w K mg base ["basis", "vector", "rest", "scale", "found", "pivot", "row", "parts", "top", "bottom", "index", "part", "one", "other"] "against" (topS 32) 0 [] s_against := fun f cdv A outer sh H hr => by
  have nd := sc_against.nd
  exact (scons (spar3 (i := 2) (j := 3) (l := 4) (ia := (Itm.e (eL (e1 itemsD (eV 1))))) (ib := (Itm.e (ep (.int 1)))) (ic := (Itm.n (e2 gRepN (eL (eAs gLs (eAc (ep (.int 0)) eAn))) (e1 gLen (eV 0))))) rfl nd rfl rfl rfl (by decide) (by decide) (by decide) rfl rfl rfl (by decide) (dL (dT1N o_list call_list_of (by rfl) m.b_list (by decide +kernel) (db (dv (pv 1))))) dint (d2N o_repN op_rep (dL (dlst (acons dint anil))) (db (dB1 o_len call_len (by rfl) m.b_len (by decide +kernel) (db (dv (pv 0)))))) (by rfl))
  (scons (sfor (vs := [5, 6, 7]) rfl (iseq (dv (pv 0))) (pg_tup rfl (pgs_cons (pg_name (i := 5) nd rfl (by first | exact Or.inl rfl | exact Or.inr rfl)) (pgs_cons (pg_name (i := 6) nd rfl (by first | exact Or.inl rfl | exact Or.inr rfl)) (pgs_cons (pg_name (i := 7) nd rfl (by first | exact Or.inl rfl | exact Or.inr rfl)) pgs_nil)))) (gtup (gcons (gname (by decide)) (gcons (gname (by decide)) (gcons (gname (by decide)) gnil)))) (scons (spart (is := [8, 9]) (its := [(Itm.e (e2 gIx (eV 2) (eV 5))), (Itm.e (e2 gIx (eV 6) (eV 5)))]) (by decide) rfl (ps_asg (pe_tup (pa_cons (dix (dv (pv 2)) (db (dv (pv 5))) (fun _ _ => rfl)) (pa_cons (dix (dv (pv 6)) (db (dv (pv 5))) (fun _ _ => rfl)) pa_nil))) (pg_tup rfl (pgs_cons (pg_name (i := 8) nd rfl (by first | exact Or.inl rfl | exact Or.inr rfl)) (pgs_cons (pg_name (i := 9) nd rfl (by first | exact Or.inl rfl | exact Or.inr rfl)) pgs_nil)))))
  (sone (sif (dct o_ne (op_neD hr.units) (dv (pv 8)) (db dint) (nomark _)) (scons (sset (ps_setLc (i := 2) rfl nd rfl rfl (sw_true rfl rfl rfl (by decide +kernel)) (izip (by rfl) m.b_zip (acons (dv (pv 2)) (acons (dv (pv 6)) anil))) (blkOk_by (own := [("one", 12), ("other", 13)]) (by kernel_rfl)) (fun _ _ _ _ _ => (pg_tup rfl (pgs_cons (pg_name (i := 12) nd rfl (by first | exact Or.inl rfl | exact Or.inr rfl)) (pgs_cons (pg_name (i := 13) nd rfl (by first | exact Or.inl rfl | exact Or.inr rfl)) pgs_nil)))) (fun _ _ _ _ _ => pts_nil) (fun _ _ _ _ _ => (d2 o_sub op_subX (d2 o_mul op_mulX (dv (pv 9)) (db (dv (pv 12)))) (db (d2 o_mul op_mulX (dv (pv 8)) (db (dv (pv 13)))))))) (fun _ _ _ h => w_lc (gtup (gcons (gname (by decide)) (gcons (gname (by decide)) gnil))) (fun _ _ _ h => w_yes h) (w_L h)))
  (scons (sset1 (ps_set (i := 3) nd rfl (by first | exact Or.inl rfl | exact Or.inr rfl) (d2 o_mul op_mulX (dv (pv 3)) (db (dv (pv 9))))))
  (scons (ssetN (by decide) (ps_setLc (i := 4) rfl nd rfl rfl (sw_true rfl rfl rfl (by decide +kernel)) (pi_list (pv 4)) (blkOk_by (own := [("one", 12)]) (by kernel_rfl)) (fun _ _ _ _ _ => (pg_name (i := 12) nd rfl (by first | exact Or.inl rfl | exact Or.inr rfl))) (fun _ _ _ _ _ => pts_nil) (fun _ _ _ _ _ => (d2 o_mul op_mulX (dv (pv 9)) (db (dv (pv 12)))))) (fun _ _ _ h => w_lcM (gname (by decide)) (fun _ _ _ h => w_yes h) h))
  (sone (sfor (vs := [10, 11]) rfl (ienum (by rfl) m.b_enumerate (acons (dv (pv 7)) anil)) (pg_tup rfl (pgs_cons (pg_name (i := 10) nd rfl (by first | exact Or.inl rfl | exact Or.inr rfl)) (pgs_cons (pg_name (i := 11) nd rfl (by first | exact Or.inl rfl | exact Or.inr rfl)) pgs_nil))) (gtup (gcons (gname (by decide)) (gcons (gname (by decide)) gnil))) (sone (sst (ps_asg (d2 o_add op_addX (dixL (pv 4) (db (dv (pv 10))) (fun _ _ => rfl)) (db (d2 o_mul op_mulX (dv (pv 8)) (db (dv (pv 11)))))) (pg_sub (pv 4) (dv (pv 10)) set_list))))))))) snil))))
  (sone (sfz [4] (sret (dtup (acons (dv (pv 2)) (acons (dv (pv 3)) (acons (dv (pv 4)) anil)))))))))
theorem k_against (c : Ct P w K mg base) : Has P w K mg base "against" 2 1 (spD K g_against) := by
  obtain ⟨f, fd, F, gm⟩ := c.f_against
  exact hasD 2 12 F sc_against gm (F.bindsN fun _ _ _ _ _ _ us hl => match us, hl with | [_, _], _ => rfl) rfl rfl (b_against c.m )
theorem h_against (c : Ct P w K mg base) : Has P w K mg base "against" 2 1 (spD K gm_against) := (k_against c).subD m_against
theorem sc_row_of : FnScope ["rest", "scale", "parts", "pivot", "least", "index", "one", "part"] ["rest", "scale", "parts"] (defScope (topS 33)) := ⟨rfl, rfl, rfl, by decide +kernel, rfl, by decide +kernel, by decide +kernel⟩
theorem b_row_of (m : Mg mg) (h_divisor_of : Has P w K mg base "divisor_of" 1 2 (spD K gm_divisor_of)) : BodyOk P w K mg base ["rest", "scale", "parts", "pivot", "least", "index", "one", "part"] "row_of" (topS 33) 2 [] s_row_of := fun f cdv A outer sh H hr => by
  have nd := sc_row_of.nd
  exact (scons (sset1 (ps_set (i := 3) nd rfl (by first | exact Or.inl rfl | exact Or.inr rfl) (dix (dL (dlc rfl nd (ienum (by rfl) m.b_enumerate (acons (dv (pv 0)) anil)) (blkOk_by (own := [("index", 5), ("one", 6)]) (by kernel_rfl)) (fun _ _ _ _ _ => (pg_tup rfl (pgs_cons (pg_name (i := 5) nd rfl (by first | exact Or.inl rfl | exact Or.inr rfl)) (pgs_cons (pg_name (i := 6) nd rfl (by first | exact Or.inl rfl | exact Or.inr rfl)) pgs_nil)))) (gtup (gcons (gname (by decide)) (gcons (gname (by decide)) gnil))) (fun _ _ _ _ _ => (pts_one (dct o_ne (op_neD hr.units) (dv (pv 6)) (db dint) (nomark _)))) (fun _ _ _ h => h) (fun _ _ _ _ _ => (dv (pv 5))))) (db dint) (fun _ _ => rfl))))
  (scons (sset1 (ps_set (i := 4) nd rfl (by first | exact Or.inl rfl | exact Or.inr rfl) (dcall h_divisor_of hr (by rfl) (acons (dL (dlst (astar (db (dv (pv 0))) (acons (dv (pv 1)) (astar (db (dv (pv 2))) anil))))) anil) )))
  (scons (sif (dct o_lt (op_ltX hr.units0) (dix (dv (pv 0)) (db (dv (pv 3))) (fun _ _ => rfl)) (db dint) (nomark _)) (sone (sset1 (ps_set (i := 4) nd rfl (by first | exact Or.inl rfl | exact Or.inr rfl) (dneg (db (dv (pv 4))))))) snil)
  (sone (sret (dtup (acons (dv (pv 3)) (acons (dL (dlc rfl nd (iseq (dv (pv 0))) (blkOk_by (own := [("one", 6)]) (by kernel_rfl)) (fun _ _ _ _ _ => (pg_name (i := 6) nd rfl (by first | exact Or.inl rfl | exact Or.inr rfl))) (gname (by decide)) (fun _ _ _ _ _ => pts_nil) (fun _ _ _ h => w_yes h) (fun _ _ _ _ _ => (d2 o_fdiv op_fdivX (dv (pv 6)) (db (dv (pv 4))))))) (acons (dL (dlst (astar (db (dL (dlc rfl nd (iseq (dv (pv 2))) (blkOk_by (own := [("part", 7)]) (by kernel_rfl)) (fun _ _ _ _ _ => (pg_name (i := 7) nd rfl (by first | exact Or.inl rfl | exact Or.inr rfl))) (gname (by decide)) (fun _ _ _ _ _ => pts_nil) (fun _ _ _ h => w_yes h) (fun _ _ _ _ _ => (dneg (db (d2 o_fdiv op_fdivX (dv (pv 7)) (db (dv (pv 4)))))))))) (acons (d2 o_fdiv op_fdivX (dv (pv 1)) (db (dv (pv 4)))) anil)))) anil)))))))))
theorem k_row_of (c : Ct P w K mg base) : Has P w K mg base "row_of" 3 3 (spD K g_row_of) := by
  obtain ⟨f, fd, F, gm⟩ := c.f_row_of
  exact hasD 3 5 F sc_row_of gm (F.bindsN fun _ _ _ _ _ _ us hl => match us, hl with | [_, _, _], _ => rfl) rfl rfl (b_row_of c.m (h_divisor_of c))
theorem h_row_of (c : Ct P w K mg base) : Has P w K mg base "row_of" 3 3 (spD K gm_row_of) := k_row_of c
theorem sc_with_row : FnScope ["basis", "vector", "rest", "scale", "parts"] ["basis", "vector"] (defScope (topS 34)) := ⟨rfl, rfl, rfl, by decide +kernel, rfl, by decide +kernel, by decide +kernel⟩
theorem b_with_row (m : Mg mg) (h_against : Has P w K mg base "against" 2 1 (spD K gm_against)) (h_row_of : Has P w K mg base "row_of" 3 3 (spD K gm_row_of)) : BodyOk P w K mg base ["basis", "vector", "rest", "scale", "parts"] "with_row" (topS 34) 3 [] s_with_row := fun f cdv A outer sh H hr => by
  have nd := sc_with_row.nd
  exact (scons (stg (vs := [2, 3, 4]) (gtup (gcons (gname (by decide)) (gcons (gname (by decide)) (gcons (gname (by decide)) gnil)))) (ps_asg (dcall h_against hr (by rfl) (acons (dv (pv 0)) (acons (dv (pv 1)) anil)) ) (pg_tup rfl (pgs_cons (pg_name (i := 2) nd rfl (by first | exact Or.inl rfl | exact Or.inr rfl)) (pgs_cons (pg_name (i := 3) nd rfl (by first | exact Or.inl rfl | exact Or.inr rfl)) (pgs_cons (pg_name (i := 4) nd rfl (by first | exact Or.inl rfl | exact Or.inr rfl)) pgs_nil))))) (fun _ _ _ h => h))
  (sone (sret (difx (dT (dB1 o_anyI (cr_anyI rfl) (by rfl) m.b_any (by decide +kernel) (db (dv (pv 2))))) (dL (dlst (astar (db (dv (pv 0))) (acons (dcall h_row_of hr (by rfl) (acons (dv (pv 2)) (acons (dv (pv 3)) (acons (dv (pv 4)) anil))) ) anil)))) dnone))))
theorem k_with_row (c : Ct P w K mg base) : Has P w K mg base "with_row" 2 4 (spD K g_with_row) := by
  obtain ⟨f, fd, F, gm⟩ := c.f_with_row
  exact hasD 2 3 F sc_with_row gm (F.bindsN fun _ _ _ _ _ _ us hl => match us, hl with | [_, _], _ => rfl) rfl rfl (b_with_row c.m (h_against c) (h_row_of c))
theorem h_with_row (c : Ct P w K mg base) : Has P w K mg base "with_row" 2 4 (spD K gm_with_row) := k_with_row c
theorem sc_ways_behind : FnScope ["vectors", "goal", "first", "chosen", "basis", "rest", "scale", "parts", "found", "index", "longer", "part"] ["vectors", "goal", "first", "chosen", "basis"] (defScope (topS 35)) := ⟨rfl, rfl, rfl, by decide +kernel, rfl, by decide +kernel, by decide +kernel⟩
theorem b_ways_behind (m : Mg mg) (h_against : Has P w K mg base "against" 2 1 (spD K gm_against)) (h_with_row : Has P w K mg base "with_row" 2 4 (spD K gm_with_row)) (n : Nat) (self : List D → Option D) (h_ways_behind : Has P w K mg base "ways_behind" 5 (4 + n) (spD K self)) : BodyOk P w K mg base ["vectors", "goal", "first", "chosen", "basis", "rest", "scale", "parts", "found", "index", "longer", "part"] "ways_behind" (topS 35) (4 + n) [] (s_ways_behind self) := fun f cdv A outer sh H hr => by
  have nd := sc_ways_behind.nd
  exact (scons (stg (vs := [5, 6, 7]) (gtup (gcons (gname (by decide)) (gcons (gname (by decide)) (gcons (gname (by decide)) gnil)))) (ps_asg (dcall h_against hr (by rfl) (acons (dv (pv 4)) (acons (dv (pv 1)) anil)) (hk := by omega)) (pg_tup rfl (pgs_cons (pg_name (i := 5) nd rfl (by first | exact Or.inl rfl | exact Or.inr rfl)) (pgs_cons (pg_name (i := 6) nd rfl (by first | exact Or.inl rfl | exact Or.inr rfl)) (pgs_cons (pg_name (i := 7) nd rfl (by first | exact Or.inl rfl | exact Or.inr rfl)) pgs_nil))))) (fun _ _ _ h => h))
  (scons (sif (dct o_eq (op_eqD hr.units) (dv (pv 5)) (db (d2 o_mul op_mulX (dL (dlst (acons dint anil))) (db (dB1 o_len call_len (by rfl) m.b_len (by decide +kernel) (db (dv (pv 5))))))) (nomark _)) (scons (sif (dT (dB1 o_all (cr_all rfl) (by rfl) m.b_all (by decide +kernel) (db (dL (dlc rfl nd (iseq (dv (pv 7))) (blkOk_by (own := [("part", 11)]) (by kernel_rfl)) (fun _ _ _ _ _ => (pg_name (i := 11) nd rfl (by first | exact Or.inl rfl | exact Or.inr rfl))) (gname (by decide)) (fun _ _ _ _ _ => pts_nil) (fun _ _ _ h => w_yes h) (fun _ _ _ _ _ => (dc o_B op_gt (dv (pv 11)) (db dint) (nomark _)))))))) (sone (sret (dL (dlst (acons (dtup (acons (dv (pv 3)) (acons (dv (pv 7)) (acons (dv (pv 6)) anil)))) anil))))) snil)
  (sone (sret (dL (dlst anil))))) snil)
  (scons (ssetN1 (by decide) (ps_set (i := 8) nd rfl (by first | exact Or.inl rfl | exact Or.inr rfl) (dlst anil)))
  (scons (sfor (vs := [9]) rfl (irange2 (by rfl) m.b_range (acons (dv (pv 2)) (acons (dB1 o_len call_len (by rfl) m.b_len (by decide +kernel) (db (dv (pv 0)))) anil))) (pg_name (i := 9) nd rfl (by first | exact Or.inl rfl | exact Or.inr rfl)) (gname (by decide)) (scons (sset1 (ps_set (i := 10) nd rfl (by first | exact Or.inl rfl | exact Or.inr rfl) (dcall h_with_row hr (by rfl) (acons (dv (pv 4)) (acons (dix (dv (pv 0)) (db (dv (pv 9))) (fun _ _ => rfl)) anil)) (hk := by omega))))
  (sone (sif (dct o_isNot op_notN (dv (pv 10)) (db dnone) (nomark _)) (sone (sexpr (dext (pv 8) (dcall h_ways_behind hr (by rfl) (acons (dv (pv 0)) (acons (dv (pv 1)) (acons (d2 o_add op_addX (dv (pv 9)) (db dint)) (acons (dL (dlst (astar (db (dv (pv 3))) (acons (dv (pv 9)) anil)))) (acons (dv (pv 10)) anil))))) (hk := by omega))))) snil))))
  (sone (sfz [8] (sret (dv (pv 8)))))))))
theorem k_ways_behind (c : Ct P w K mg base) : Has P w K mg base "ways_behind" 5 13 (spD K g_ways_behind) := by
  obtain ⟨f, fd, F, gm⟩ := c.f_ways_behind
  have hb : Binds K fd ["vectors", "goal", "first", "chosen", "basis"] [] := F.bindsN fun _ _ _ _ _ _ us hl => match us, hl with | [_, _, _, _, _], _ => rfl
  have key : ∀ n, Has P w K mg base "ways_behind" 5 (4 + n) (spD K (r_ways_behind n)) := fun n => by
    induction n with
    | zero => exact hasNo F gm hb rfl
    | succ n ih => exact hasD 5 7 F sc_ways_behind gm hb rfl rfl (b_ways_behind c.m (h_against c) (h_with_row c) n _ ih)
  exact (key 8).lift (by decide)
theorem h_ways_behind (c : Ct P w K mg base) : Has P w K mg base "ways_behind" 5 13 (spD K gm_ways_behind) := k_ways_behind c
theorem sc_positive_ways : FnScope ["vectors", "goal"] ["vectors", "goal"] (defScope (topS 36)) := ⟨rfl, rfl, rfl, by decide +kernel, rfl, by decide +kernel, by decide +kernel⟩
theorem b_positive_ways (m : Mg mg) (h_ways_behind : Has P w K mg base "ways_behind" 5 13 (spD K gm_ways_behind)) : BodyOk P w K mg base ["vectors", "goal"] "positive_ways" (topS 36) 13 [] s_positive_ways := fun f cdv A outer sh H hr => by
  have nd := sc_positive_ways.nd
  exact (sone (sret (dcall h_ways_behind hr (by rfl) (acons (dv (pv 0)) (acons (dv (pv 1)) (acons dint (acons (dL (dlst anil)) (acons (dL (dlst anil)) anil))))) )))
theorem k_positive_ways (c : Ct P w K mg base) : Has P w K mg base "positive_ways" 2 14 (spD K g_positive_ways) := by
  obtain ⟨f, fd, F, gm⟩ := c.f_positive_ways
  exact hasD 2 0 F sc_positive_ways gm (F.bindsN fun _ _ _ _ _ _ us hl => match us, hl with | [_, _], _ => rfl) rfl rfl (b_positive_ways c.m (h_ways_behind c))
theorem h_positive_ways (c : Ct P w K mg base) : Has P w K mg base "positive_ways" 2 14 (spD K gm_positive_ways) := k_positive_ways c
theorem sc_knots_behind : FnScope ["vectors", "first", "chosen", "basis", "found", "index", "rest", "scale", "parts", "longer", "least", "one", "part"] ["vectors", "first", "chosen", "basis"] (defScope (topS 37)) := ⟨rfl, rfl, rfl, by decide +kernel, rfl, by decide +kernel, by decide +kernel⟩
theorem b_knots_behind (m : Mg mg) (h_against : Has P w K mg base "against" 2 1 (spD K gm_against)) (h_row_of : Has P w K mg base "row_of" 3 3 (spD K gm_row_of)) (h_divisor_of : Has P w K mg base "divisor_of" 1 2 (spD K gm_divisor_of)) (n : Nat) (self : List D → Option D) (h_knots_behind : Has P w K mg base "knots_behind" 4 (3 + n) (spD K self)) : BodyOk P w K mg base ["vectors", "first", "chosen", "basis", "found", "index", "rest", "scale", "parts", "longer", "least", "one", "part"] "knots_behind" (topS 37) (3 + n) [] (s_knots_behind self) := fun f cdv A outer sh H hr => by
  have nd := sc_knots_behind.nd
  exact (scons (ssetN1 (by decide) (ps_set (i := 4) nd rfl (by first | exact Or.inl rfl | exact Or.inr rfl) (dlst anil)))
  (scons (sfor (vs := [5]) rfl (irange2 (by rfl) m.b_range (acons (dv (pv 1)) (acons (dB1 o_len call_len (by rfl) m.b_len (by decide +kernel) (db (dv (pv 0)))) anil))) (pg_name (i := 5) nd rfl (by first | exact Or.inl rfl | exact Or.inr rfl)) (gname (by decide)) (scons (stg (vs := [6, 7, 8]) (gtup (gcons (gname (by decide)) (gcons (gname (by decide)) (gcons (gname (by decide)) gnil)))) (ps_asg (dcall h_against hr (by rfl) (acons (dv (pv 3)) (acons (dix (dv (pv 0)) (db (dv (pv 5))) (fun _ _ => rfl)) anil)) (hk := by omega)) (pg_tup rfl (pgs_cons (pg_name (i := 6) nd rfl (by first | exact Or.inl rfl | exact Or.inr rfl)) (pgs_cons (pg_name (i := 7) nd rfl (by first | exact Or.inl rfl | exact Or.inr rfl)) (pgs_cons (pg_name (i := 8) nd rfl (by first | exact Or.inl rfl | exact Or.inr rfl)) pgs_nil))))) (fun _ _ _ h => h))
  (sone (sif (dT (dB1 o_anyI (cr_anyI rfl) (by rfl) m.b_any (by decide +kernel) (db (dv (pv 6))))) (scons (sset1 (ps_set (i := 9) nd rfl (by first | exact Or.inl rfl | exact Or.inr rfl) (dL (dlst (astar (db (dv (pv 3))) (acons (dcall h_row_of hr (by rfl) (acons (dv (pv 6)) (acons (dv (pv 7)) (acons (dv (pv 8)) anil))) (hk := by omega)) anil))))))
  (sone (sexpr (dext (pv 4) (dcall h_knots_behind hr (by rfl) (acons (dv (pv 0)) (acons (d2 o_add op_addX (dv (pv 5)) (db dint)) (acons (dL (dlst (astar (db (dv (pv 2))) (acons (dv (pv 5)) anil)))) (acons (dv (pv 9)) anil)))) (hk := by omega)))))) (sone (sif (dct o_lt (op_ltX hr.units0) (dB1 o_max (cr_max rfl) (by rfl) m.b_max (by decide +kernel) (db (dL (dlst (acons (dneg (db dint)) (astar (db (dv (pv 8))) anil)))))) (db dint) (nomark _)) (scons (sset1 (ps_set (i := 10) nd rfl (by first | exact Or.inl rfl | exact Or.inr rfl) (dcall h_divisor_of hr (by rfl) (acons (dL (dlst (astar (db (dv (pv 8))) (acons (dv (pv 7)) anil)))) anil) (hk := by omega))))
  (sone (sexpr (dapp (pv 4) (dL (dlst (astar (db (dL (dlc rfl nd (izip (by rfl) m.b_zip (acons (dv (pv 2)) (acons (dv (pv 8)) anil))) (blkOk_by (own := [("one", 11), ("part", 12)]) (by kernel_rfl)) (fun _ _ _ _ _ => (pg_tup rfl (pgs_cons (pg_name (i := 11) nd rfl (by first | exact Or.inl rfl | exact Or.inr rfl)) (pgs_cons (pg_name (i := 12) nd rfl (by first | exact Or.inl rfl | exact Or.inr rfl)) pgs_nil)))) (gtup (gcons (gname (by decide)) (gcons (gname (by decide)) gnil))) (fun _ _ _ _ _ => pts_nil) (fun _ _ _ h => w_yes h) (fun _ _ _ _ _ => (dtup (acons (dv (pv 11)) (acons (d2 o_fdiv op_fdivX (dneg (db (dv (pv 12)))) (db (dv (pv 10)))) anil))))))) (acons (dtup (acons (dv (pv 5)) (acons (d2 o_fdiv op_fdivX (dv (pv 7)) (db (dv (pv 10)))) anil))) anil)))))))) snil))))))
  (sone (sfz [4] (sret (dv (pv 4)))))))
theorem k_knots_behind (c : Ct P w K mg base) : Has P w K mg base "knots_behind" 4 12 (spD K g_knots_behind) := by
  obtain ⟨f, fd, F, gm⟩ := c.f_knots_behind
  have hb : Binds K fd ["vectors", "first", "chosen", "basis"] [] := F.bindsN fun _ _ _ _ _ _ us hl => match us, hl with | [_, _, _, _], _ => rfl
  have key : ∀ n, Has P w K mg base "knots_behind" 4 (3 + n) (spD K (r_knots_behind n)) := fun n => by
    induction n with
    | zero => exact hasNo F gm hb rfl
    | succ n ih => exact hasD 4 9 F sc_knots_behind gm hb rfl rfl (b_knots_behind c.m (h_against c) (h_row_of c) (h_divisor_of c) n _ ih)
  exact (key 8).lift (by decide)
theorem h_knots_behind (c : Ct P w K mg base) : Has P w K mg base "knots_behind" 4 12 (spD K gm_knots_behind) := k_knots_behind c
theorem sc_knots_of : FnScope ["vectors"] ["vectors"] (defScope (topS 38)) := ⟨rfl, rfl, rfl, by decide +kernel, rfl, by decide +kernel, by decide +kernel⟩
theorem b_knots_of (m : Mg mg) (h_knots_behind : Has P w K mg base "knots_behind" 4 12 (spD K gm_knots_behind)) : BodyOk P w K mg base ["vectors"] "knots_of" (topS 38) 12 [] s_knots_of := fun f cdv A outer sh H hr => by
  have nd := sc_knots_of.nd
  exact (sone (sret (dL (dB1N o_sort (cr_srt hr.units) (by rfl) m.b_sorted (by decide +kernel) (db (dcall h_knots_behind hr (by rfl) (acons (dv (pv 0)) (acons dint (acons (dL (dlst anil)) (acons (dL (dlst anil)) anil)))) ))))))
theorem k_knots_of (c : Ct P w K mg base) : Has P w K mg base "knots_of" 1 13 (spD K g_knots_of) := by
  obtain ⟨f, fd, F, gm⟩ := c.f_knots_of
  exact hasD 1 0 F sc_knots_of gm (F.bindsN fun _ _ _ _ _ _ us hl => match us, hl with | [_], _ => rfl) rfl rfl (b_knots_of c.m (h_knots_behind c))
theorem h_knots_of (c : Ct P w K mg base) : Has P w K mg base "knots_of" 1 13 (spD K gm_knots_of) := k_knots_of c
theorem sc_knots_in : FnScope ["book"] ["book"] (defScope (topS 39)) := ⟨rfl, rfl, rfl, by decide +kernel, rfl, by decide +kernel, by decide +kernel⟩
theorem b_knots_in (m : Mg mg) (h_knots_of : Has P w K mg base "knots_of" 1 13 (spD K gm_knots_of)) : BodyOk P w K mg base ["book"] "knots_in" (topS 39) 13 [] s_knots_in := fun f cdv A outer sh H hr => by
  have nd := sc_knots_in.nd
  exact (sone (sret (dcall h_knots_of hr (by rfl) (acons (dv (pv 0)) anil) )))
theorem k_knots_in (c : Ct P w K mg base) : Has P w K mg base "knots_in" 1 14 (spD K g_knots_in) := by
  obtain ⟨f, fd, F, gm⟩ := c.f_knots_in
  exact hasD 1 0 F sc_knots_in gm (F.bindsN fun _ _ _ _ _ _ us hl => match us, hl with | [_], _ => rfl) rfl rfl (b_knots_in c.m (h_knots_of c))
theorem h_knots_in (c : Ct P w K mg base) : Has P w K mg base "knots_in" 1 14 (spD K gm_knots_in) := k_knots_in c
theorem sc_sum_in : FnScope ["knot", "world", "number", "weight"] ["knot", "world"] (defScope (topS 40)) := ⟨rfl, rfl, rfl, by decide +kernel, rfl, by decide +kernel, by decide +kernel⟩
theorem b_sum_in (m : Mg mg) (h_summed : Has P w K mg base "summed" 1 4 (spD K gm_summed)) (h_scaled : Has P w K mg base "scaled" 2 3 (spD K gm_scaled)) : BodyOk P w K mg base ["knot", "world", "number", "weight"] "sum_in" (topS 40) 4 [] s_sum_in := fun f cdv A outer sh H hr => by
  have nd := sc_sum_in.nd
  exact (scons (sif (dT (dB1 o_any (cr_any rfl) (by rfl) m.b_any (by decide +kernel) (db (dL (dlc rfl nd (iseq (dv (pv 0))) (blkOk_by (own := [("number", 2), ("weight", 3)]) (by kernel_rfl)) (fun _ _ _ _ _ => (pg_tup rfl (pgs_cons (pg_name (i := 2) nd rfl (by first | exact Or.inl rfl | exact Or.inr rfl)) (pgs_cons (pg_name (i := 3) nd rfl (by first | exact Or.inl rfl | exact Or.inr rfl)) pgs_nil)))) (gtup (gcons (gname (by decide)) (gcons (gname (by decide)) gnil))) (fun _ _ _ _ _ => pts_nil) (fun _ _ _ h => w_yes h) (fun _ _ _ _ _ => (dc o_is op_isN (dix (dv (pv 1)) (db (dv (pv 2))) (fun _ _ => rfl)) (db dnone) (nomark _)))))))) (sone (sret dnone)) snil)
  (sone (sret (dcall h_summed hr (by rfl) (acons (dL (dlc rfl nd (iseq (dv (pv 0))) (blkOk_by (own := [("number", 2), ("weight", 3)]) (by kernel_rfl)) (fun _ _ _ _ _ => (pg_tup rfl (pgs_cons (pg_name (i := 2) nd rfl (by first | exact Or.inl rfl | exact Or.inr rfl)) (pgs_cons (pg_name (i := 3) nd rfl (by first | exact Or.inl rfl | exact Or.inr rfl)) pgs_nil)))) (gtup (gcons (gname (by decide)) (gcons (gname (by decide)) gnil))) (fun _ _ _ _ _ => pts_nil) (fun _ _ _ h => w_yes h) (fun _ _ _ _ _ => (dcall h_scaled hr (by rfl) (acons (dv (pv 3)) (acons (dix (dv (pv 1)) (db (dv (pv 2))) (fun _ _ => rfl)) anil)) )))) anil) ))))
theorem k_sum_in (c : Ct P w K mg base) : Has P w K mg base "sum_in" 2 5 (spD K g_sum_in) := by
  obtain ⟨f, fd, F, gm⟩ := c.f_sum_in
  exact hasD 2 2 F sc_sum_in gm (F.bindsN fun _ _ _ _ _ _ us hl => match us, hl with | [_, _], _ => rfl) rfl rfl (b_sum_in c.m (h_summed c) (h_scaled c))
theorem h_sum_in (c : Ct P w K mg base) : Has P w K mg base "sum_in" 2 5 (spD K gm_sum_in) := k_sum_in c
theorem sc_is_broken : FnScope ["knot", "world", "total"] ["knot", "world"] (defScope (topS 41)) := ⟨rfl, rfl, rfl, by decide +kernel, rfl, by decide +kernel, by decide +kernel⟩
theorem b_is_broken (m : Mg mg) (h_sum_in : Has P w K mg base "sum_in" 2 5 (spD K gm_sum_in)) : BodyOk P w K mg base ["knot", "world", "total"] "is_broken" (topS 41) 5 [] s_is_broken := fun f cdv A outer sh H hr => by
  have nd := sc_is_broken.nd
  exact (scons (sset1 (ps_set (i := 2) nd rfl (by first | exact Or.inl rfl | exact Or.inr rfl) (dcall h_sum_in hr (by rfl) (acons (dv (pv 0)) (acons (dv (pv 1)) anil)) )))
  (sone (sret (dandV (dc o_isNot op_notN (dv (pv 2)) (db dnone) (nomark _)) (dandV1 (dc o_lt (op_ltX hr.units0) (dix (dv (pv 2)) (db dint) (fun _ _ => rfl)) (db dint) (nomark _)))))))
theorem k_is_broken (c : Ct P w K mg base) : Has P w K mg base "is_broken" 2 6 (spD K g_is_broken) := by
  obtain ⟨f, fd, F, gm⟩ := c.f_is_broken
  exact hasD 2 1 F sc_is_broken gm (F.bindsN fun _ _ _ _ _ _ us hl => match us, hl with | [_, _], _ => rfl) rfl rfl (b_is_broken c.m (h_sum_in c))
theorem h_is_broken (c : Ct P w K mg base) : Has P w K mg base "is_broken" 2 6 (spD K gm_is_broken) := k_is_broken c
theorem sc_point_of_rows : FnScope ["basis", "values", "size", "found", "pivot", "row", "parts", "total", "others", "top", "bottom", "index", "number", "part", "value"] ["basis", "values", "size"] (defScope (topS 42)) := ⟨rfl, rfl, rfl, by decide +kernel, rfl, by decide +kernel, by decide +kernel⟩
theorem b_point_of_rows (m : Mg mg) (h_summed : Has P w K mg base "summed" 1 4 (spD K gm_summed)) (h_scaled : Has P w K mg base "scaled" 2 3 (spD K gm_scaled)) (h_added : Has P w K mg base "added" 2 3 (spD K gm_added)) (h_lowest : Has P w K mg base "lowest" 2 2 (spD K gm_lowest)) : BodyOk P w K mg base ["basis", "values", "size", "found", "pivot", "row", "parts", "total", "others", "top", "bottom", "index", "number", "part", "value"] "point_of_rows" (topS 42) 4 [] s_point_of_rows := fun f cdv A outer sh H hr => by
  have nd := sc_point_of_rows.nd
  exact (scons (ssetN1 (by decide) (ps_set (i := 3) nd rfl (by first | exact Or.inl rfl | exact Or.inr rfl) (d2N o_repN op_rep (dL (dlst (acons (dtup (acons dint (acons dint anil))) anil))) (db (dv (pv 2))))))
  (scons (sfor (vs := [4, 5, 6]) rfl (iseq (dL (drev (db (dv (pv 0)))))) (pg_tup rfl (pgs_cons (pg_name (i := 4) nd rfl (by first | exact Or.inl rfl | exact Or.inr rfl)) (pgs_cons (pg_name (i := 5) nd rfl (by first | exact Or.inl rfl | exact Or.inr rfl)) (pgs_cons (pg_name (i := 6) nd rfl (by first | exact Or.inl rfl | exact Or.inr rfl)) pgs_nil)))) (gtup (gcons (gname (by decide)) (gcons (gname (by decide)) (gcons (gname (by decide)) gnil)))) (scons (sset1 (ps_set (i := 7) nd rfl (by first | exact Or.inl rfl | exact Or.inr rfl) (dcall h_summed hr (by rfl) (acons (dL (dlc rfl nd (izip (by rfl) m.b_zip (acons (dv (pv 6)) (acons (dv (pv 1)) anil))) (blkOk_by (own := [("part", 13), ("value", 14)]) (by kernel_rfl)) (fun _ _ _ _ _ => (pg_tup rfl (pgs_cons (pg_name (i := 13) nd rfl (by first | exact Or.inl rfl | exact Or.inr rfl)) (pgs_cons (pg_name (i := 14) nd rfl (by first | exact Or.inl rfl | exact Or.inr rfl)) pgs_nil)))) (gtup (gcons (gname (by decide)) (gcons (gname (by decide)) gnil))) (fun _ _ _ _ _ => pts_nil) (fun _ _ _ h => w_yes h) (fun _ _ _ _ _ => (dcall h_scaled hr (by rfl) (acons (dv (pv 13)) (acons (dv (pv 14)) anil)) )))) anil) )))
  (scons (sset (ps_setLc (i := 8) rfl nd rfl rfl (sw_true rfl rfl rfl (by decide +kernel)) (ienum (by rfl) m.b_enumerate (acons (dv (pv 5)) anil)) (blkOk_by (own := [("index", 11), ("number", 12)]) (by kernel_rfl)) (fun _ _ _ _ _ => (pg_tup rfl (pgs_cons (pg_name (i := 11) nd rfl (by first | exact Or.inl rfl | exact Or.inr rfl)) (pgs_cons (pg_name (i := 12) nd rfl (by first | exact Or.inl rfl | exact Or.inr rfl)) pgs_nil)))) (fun _ _ _ _ _ => (pts_one (dct o_ne (op_neD hr.units) (dv (pv 11)) (db (dv (pv 4))) (nomark _)))) (fun _ _ _ _ _ => (dcall h_scaled hr (by rfl) (acons (dneg (db (dv (pv 12)))) (acons (dixL (pv 3) (db (dv (pv 11))) (fun _ _ => rfl)) anil)) ))) (fun _ _ _ h => w_lc (gtup (gcons (gname (by decide)) (gcons (gname (by decide)) gnil))) (fun _ _ _ h => h) (w_L h)))
  (scons (stg (vs := [9, 10]) (gtup (gcons (gname (by decide)) (gcons (gname (by decide)) gnil))) (ps_asg (dcall h_added hr (by rfl) (acons (dv (pv 7)) (acons (dcall h_summed hr (by rfl) (acons (dv (pv 8)) anil) ) anil)) ) (pg_tup rfl (pgs_cons (pg_name (i := 9) nd rfl (by first | exact Or.inl rfl | exact Or.inr rfl)) (pgs_cons (pg_name (i := 10) nd rfl (by first | exact Or.inl rfl | exact Or.inr rfl)) pgs_nil)))) (fun _ _ _ h => h))
  (sone (sst (ps_asg (dcall h_lowest hr (by rfl) (acons (dv (pv 9)) (acons (d2 o_mul op_mulX (dv (pv 10)) (db (dix (dv (pv 5)) (db (dv (pv 4))) (fun _ _ => rfl)))) anil)) ) (pg_sub (pv 3) (dv (pv 4)) set_list))))))))
  (sone (sret (dT1 o_tuple call_tuple_of (by rfl) m.b_tuple (by decide +kernel) (dmb (pv 3)))))))
theorem k_point_of_rows (c : Ct P w K mg base) : Has P w K mg base "point_of_rows" 3 5 (spD K g_point_of_rows) := by
  obtain ⟨f, fd, F, gm⟩ := c.f_point_of_rows
  exact hasD 3 12 F sc_point_of_rows gm (F.bindsN fun _ _ _ _ _ _ us hl => match us, hl with | [_, _, _], _ => rfl) rfl rfl (b_point_of_rows c.m (h_summed c) (h_scaled c) (h_added c) (h_lowest c))
theorem h_point_of_rows (c : Ct P w K mg base) : Has P w K mg base "point_of_rows" 3 5 (spD K gm_point_of_rows) := k_point_of_rows c
theorem sc_within_bounds : FnScope ["vectors", "bounds", "point", "vector", "bound"] ["vectors", "bounds", "point"] (defScope (topS 43)) := ⟨rfl, rfl, rfl, by decide +kernel, rfl, by decide +kernel, by decide +kernel⟩
theorem b_within_bounds (m : Mg mg) (h_is_below : Has P w K mg base "is_below" 2 1 (spD K gm_is_below)) (h_value_at : Has P w K mg base "value_at" 2 5 (spD K gm_value_at)) : BodyOk P w K mg base ["vectors", "bounds", "point", "vector", "bound"] "within_bounds" (topS 43) 5 [] s_within_bounds := fun f cdv A outer sh H hr => by
  have nd := sc_within_bounds.nd
  exact (scons (sfor (vs := [3, 4]) rfl (izip (by rfl) m.b_zip (acons (dv (pv 0)) (acons (dv (pv 1)) anil))) (pg_tup rfl (pgs_cons (pg_name (i := 3) nd rfl (by first | exact Or.inl rfl | exact Or.inr rfl)) (pgs_cons (pg_name (i := 4) nd rfl (by first | exact Or.inl rfl | exact Or.inr rfl)) pgs_nil))) (gtup (gcons (gname (by decide)) (gcons (gname (by decide)) gnil))) (sone (sif (dT (dcall h_is_below hr (by rfl) (acons (dv (pv 4)) (acons (dcall h_value_at hr (by rfl) (acons (dv (pv 3)) (acons (dv (pv 2)) anil)) ) anil)) )) (sone (sret dbl)) snil)))
  (sone (sret dbl)))
theorem k_within_bounds (c : Ct P w K mg base) : Has P w K mg base "within_bounds" 3 6 (spD K g_within_bounds) := by
  obtain ⟨f, fd, F, gm⟩ := c.f_within_bounds
  exact hasD 3 2 F sc_within_bounds gm (F.bindsN fun _ _ _ _ _ _ us hl => match us, hl with | [_, _, _], _ => rfl) rfl rfl (b_within_bounds c.m (h_is_below c) (h_value_at c))
theorem h_within_bounds (c : Ct P w K mg base) : Has P w K mg base "within_bounds" 3 6 (spD K gm_within_bounds) := k_within_bounds c
theorem sc_face_point : FnScope ["vectors", "bounds", "first", "chosen", "basis", "deeper", "index", "longer", "found", "point"] ["vectors", "bounds", "first", "chosen", "basis"] (defScope (topS 44)) := ⟨rfl, rfl, rfl, by decide +kernel, rfl, by decide +kernel, by decide +kernel⟩
theorem b_face_point (m : Mg mg) (h_with_row : Has P w K mg base "with_row" 2 4 (spD K gm_with_row)) (h_point_of_rows : Has P w K mg base "point_of_rows" 3 5 (spD K gm_point_of_rows)) (h_within_bounds : Has P w K mg base "within_bounds" 3 6 (spD K gm_within_bounds)) (n : Nat) (self : List D → Option D) (h_face_point : Has P w K mg base "face_point" 5 (6 + n) (spD K self)) : BodyOk P w K mg base ["vectors", "bounds", "first", "chosen", "basis", "deeper", "index", "longer", "found", "point"] "face_point" (topS 44) (6 + n) [] (s_face_point self) := fun f cdv A outer sh H hr => by
  have nd := sc_face_point.nd
  exact (scons (sset1 (ps_set (i := 5) nd rfl (by first | exact Or.inl rfl | exact Or.inr rfl) dbl))
  (scons (sfor (vs := [6]) rfl (irange2 (by rfl) m.b_range (acons (dv (pv 2)) (acons (dB1 o_len call_len (by rfl) m.b_len (by decide +kernel) (db (dv (pv 0)))) anil))) (pg_name (i := 6) nd rfl (by first | exact Or.inl rfl | exact Or.inr rfl)) (gname (by decide)) (scons (sset1 (ps_set (i := 7) nd rfl (by first | exact Or.inl rfl | exact Or.inr rfl) (dcall h_with_row hr (by rfl) (acons (dv (pv 4)) (acons (dix (dv (pv 0)) (db (dv (pv 6))) (fun _ _ => rfl)) anil)) (hk := by omega))))
  (sone (sif (dct o_isNot op_notN (dv (pv 7)) (db dnone) (nomark _)) (scons (sset1 (ps_set (i := 5) nd rfl (by first | exact Or.inl rfl | exact Or.inr rfl) dbl))
  (scons (sset1 (ps_set (i := 8) nd rfl (by first | exact Or.inl rfl | exact Or.inr rfl) (dcall h_face_point hr (by rfl) (acons (dv (pv 0)) (acons (dv (pv 1)) (acons (d2 o_add op_addX (dv (pv 6)) (db dint)) (acons (dL (dlst (astar (db (dv (pv 3))) (acons (dv (pv 6)) anil)))) (acons (dv (pv 7)) anil))))) (hk := by omega))))
  (sone (sif (dct o_isNot op_notN (dv (pv 8)) (db dnone) (nomark _)) (sone (sret (dv (pv 8)))) snil)))) snil))))
  (scons (sif (dT (dv (pv 5))) (sone (sret dnone)) snil)
  (scons (sset1 (ps_set (i := 9) nd rfl (by first | exact Or.inl rfl | exact Or.inr rfl) (dcall h_point_of_rows hr (by rfl) (acons (dv (pv 4)) (acons (dL (dlc rfl nd (iseq (dv (pv 3))) (blkOk_by (own := [("index", 6)]) (by kernel_rfl)) (fun _ _ _ _ _ => (pg_name (i := 6) nd rfl (by first | exact Or.inl rfl | exact Or.inr rfl))) (gname (by decide)) (fun _ _ _ _ _ => pts_nil) (fun _ _ _ h => w_yes h) (fun _ _ _ _ _ => (dix (dv (pv 1)) (db (dv (pv 6))) (fun _ _ => rfl))))) (acons (dB1 o_len call_len (by rfl) m.b_len (by decide +kernel) (db (dix (dv (pv 0)) (db dint) (fun _ _ => rfl)))) anil))) (hk := by omega))))
  (sone (sret (difx (dT (dcall h_within_bounds hr (by rfl) (acons (dv (pv 0)) (acons (dv (pv 1)) (acons (dv (pv 9)) anil))) (hk := by omega))) (dv (pv 9)) dnone)))))))
theorem k_face_point (c : Ct P w K mg base) : Has P w K mg base "face_point" 5 15 (spD K g_face_point) := by
  obtain ⟨f, fd, F, gm⟩ := c.f_face_point
  have hb : Binds K fd ["vectors", "bounds", "first", "chosen", "basis"] [] := F.bindsN fun _ _ _ _ _ _ us hl => match us, hl with | [_, _, _, _, _], _ => rfl
  have key : ∀ n, Has P w K mg base "face_point" 5 (6 + n) (spD K (r_face_point n)) := fun n => by
    induction n with
    | zero => exact hasNo F gm hb rfl
    | succ n ih => exact hasD 5 5 F sc_face_point gm hb rfl rfl (b_face_point c.m (h_with_row c) (h_point_of_rows c) (h_within_bounds c) n _ ih)
  exact (key 8).lift (by decide)
theorem h_face_point (c : Ct P w K mg base) : Has P w K mg base "face_point" 5 15 (spD K gm_face_point) := k_face_point c
theorem sc_some_point : FnScope ["vectors", "bounds", "here", "vector", "bound"] ["vectors", "bounds"] (defScope (topS 45)) := ⟨rfl, rfl, rfl, by decide +kernel, rfl, by decide +kernel, by decide +kernel⟩
theorem b_some_point (m : Mg mg) (h_face_point : Has P w K mg base "face_point" 5 15 (spD K gm_face_point)) : BodyOk P w K mg base ["vectors", "bounds", "here", "vector", "bound"] "some_point" (topS 45) 15 [] s_some_point := fun f cdv A outer sh H hr => by
  have nd := sc_some_point.nd
  exact (scons (sset (ps_setLc (i := 2) rfl nd rfl rfl (sw_true rfl rfl rfl (by decide +kernel)) (izip (by rfl) m.b_zip (acons (dv (pv 0)) (acons (dv (pv 1)) anil))) (blkOk_by (own := [("vector", 3), ("bound", 4)]) (by kernel_rfl)) (fun _ _ _ _ _ => (pg_tup rfl (pgs_cons (pg_name (i := 3) nd rfl (by first | exact Or.inl rfl | exact Or.inr rfl)) (pgs_cons (pg_name (i := 4) nd rfl (by first | exact Or.inl rfl | exact Or.inr rfl)) pgs_nil)))) (fun _ _ _ _ _ => (pts_one (dct o_isNot op_notN (dv (pv 4)) (db dnone) (nomark _)))) (fun _ _ _ _ _ => (dtup (acons (dv (pv 3)) (acons (dv (pv 4)) anil))))) (fun _ _ _ h => w_lc (gtup (gcons (gname (by decide)) (gcons (gname (by decide)) gnil))) (fun _ _ _ h => h) (w_L h)))
  (scons (sif (dct o_eq (op_eqD hr.units) (dv (pv 2)) (db (dL (dlst anil))) (nomark _)) (sone (sret (d2 o_mul op_mulX (dtup (acons (dtup (acons dint (acons dint anil))) anil)) (db (dB1 o_len call_len (by rfl) m.b_len (by decide +kernel) (db (dix (dv (pv 0)) (db dint) (fun _ _ => rfl)))))))) snil)
  (sone (sret (dcall h_face_point hr (by rfl) (acons (dL (dlc rfl nd (iseq (dv (pv 2))) (blkOk_by (own := [("vector", 3), ("bound", 4)]) (by kernel_rfl)) (fun _ _ _ _ _ => (pg_tup rfl (pgs_cons (pg_name (i := 3) nd rfl (by first | exact Or.inl rfl | exact Or.inr rfl)) (pgs_cons (pg_name (i := 4) nd rfl (by first | exact Or.inl rfl | exact Or.inr rfl)) pgs_nil)))) (gtup (gcons (gname (by decide)) (gcons (gname (by decide)) gnil))) (fun _ _ _ _ _ => pts_nil) (fun _ _ _ h => w_yes h) (fun _ _ _ _ _ => (dv (pv 3))))) (acons (dL (dlc rfl nd (iseq (dv (pv 2))) (blkOk_by (own := [("vector", 3), ("bound", 4)]) (by kernel_rfl)) (fun _ _ _ _ _ => (pg_tup rfl (pgs_cons (pg_name (i := 3) nd rfl (by first | exact Or.inl rfl | exact Or.inr rfl)) (pgs_cons (pg_name (i := 4) nd rfl (by first | exact Or.inl rfl | exact Or.inr rfl)) pgs_nil)))) (gtup (gcons (gname (by decide)) (gcons (gname (by decide)) gnil))) (fun _ _ _ _ _ => pts_nil) (fun _ _ _ h => w_yes h) (fun _ _ _ _ _ => (dv (pv 4))))) (acons dint (acons (dL (dlst anil)) (acons (dL (dlst anil)) anil))))) )))))
theorem k_some_point (c : Ct P w K mg base) : Has P w K mg base "some_point" 2 16 (spD K g_some_point) := by
  obtain ⟨f, fd, F, gm⟩ := c.f_some_point
  exact hasD 2 3 F sc_some_point gm (F.bindsN fun _ _ _ _ _ _ us hl => match us, hl with | [_, _], _ => rfl) rfl rfl (b_some_point c.m (h_face_point c))
theorem h_some_point (c : Ct P w K mg base) : Has P w K mg base "some_point" 2 16 (spD K gm_some_point) := k_some_point c
theorem sc_taken : FnScope ["factor", "bound"] ["factor", "bound"] (defScope (topS 47)) := ⟨rfl, rfl, rfl, by decide +kernel, rfl, by decide +kernel, by decide +kernel⟩
theorem b_taken (m : Mg mg) (h_lowest : Has P w K mg base "lowest" 2 2 (spD K gm_lowest)) : BodyOk P w K mg base ["factor", "bound"] "taken" (topS 47) 2 [] s_taken := fun f cdv A outer sh H hr => by
  have nd := sc_taken.nd
  exact (sone (sret (dcall h_lowest hr (by rfl) (acons (d2 o_mul op_mulX (dix (dv (pv 0)) (db dint) (fun _ _ => rfl)) (db (dix (dv (pv 1)) (db dint) (fun _ _ => rfl)))) (acons (d2 o_mul op_mulX (dix (dv (pv 0)) (db dint) (fun _ _ => rfl)) (db (dix (dv (pv 1)) (db dint) (fun _ _ => rfl)))) anil)) )))
theorem k_taken (c : Ct P w K mg base) : Has P w K mg base "taken" 2 3 (spD K g_taken) := by
  obtain ⟨f, fd, F, gm⟩ := c.f_taken
  exact hasD 2 0 F sc_taken gm (F.bindsN fun _ _ _ _ _ _ us hl => match us, hl with | [_, _], _ => rfl) rfl rfl (b_taken c.m (h_lowest c))
theorem h_taken (c : Ct P w K mg base) : Has P w K mg base "taken" 2 3 (spD K gm_taken) := k_taken c
theorem sc_greatest_in : FnScope ["book", "world", "numbers", "held", "found", "chosen", "tops", "bottom", "parts", "total", "number", "bound", "index", "top"] ["book", "world", "numbers"] (defScope (topS 48)) := ⟨rfl, rfl, rfl, by decide +kernel, rfl, by decide +kernel, by decide +kernel⟩
theorem b_greatest_in (m : Mg mg) (h_positive_ways : Has P w K mg base "positive_ways" 2 14 (spD K gm_positive_ways)) (h_taken : Has P w K mg base "taken" 2 3 (spD K gm_taken)) (h_summed : Has P w K mg base "summed" 1 4 (spD K gm_summed)) (h_is_below : Has P w K mg base "is_below" 2 1 (spD K gm_is_below)) : BodyOk P w K mg base ["book", "world", "numbers", "held", "found", "chosen", "tops", "bottom", "parts", "total", "number", "bound", "index", "top"] "greatest_in" (topS 48) 14 [] s_greatest_in := fun f cdv A outer sh H hr => by
  have nd := sc_greatest_in.nd
  exact (scons (sset1 (ps_set (i := 3) nd rfl (by first | exact Or.inl rfl | exact Or.inr rfl) (dL (dlc rfl nd (ienum (by rfl) m.b_enumerate (acons (dv (pv 1)) anil)) (blkOk_by (own := [("number", 10), ("bound", 11)]) (by kernel_rfl)) (fun _ _ _ _ _ => (pg_tup rfl (pgs_cons (pg_name (i := 10) nd rfl (by first | exact Or.inl rfl | exact Or.inr rfl)) (pgs_cons (pg_name (i := 11) nd rfl (by first | exact Or.inl rfl | exact Or.inr rfl)) pgs_nil)))) (gtup (gcons (gname (by decide)) (gcons (gname (by decide)) gnil))) (fun _ _ _ _ _ => (pts_one (dct o_isNot op_notN (dv (pv 11)) (db dnone) (nomark _)))) (fun _ _ _ h => h) (fun _ _ _ _ _ => (dv (pv 10)))))))
  (scons (sset1 (ps_set (i := 4) nd rfl (by first | exact Or.inl rfl | exact Or.inr rfl) dnone))
  (scons (sfor (vs := [5, 6, 7]) rfl (iseq (dcall h_positive_ways hr (by rfl) (acons (dL (dlc rfl nd (iseq (dv (pv 3))) (blkOk_by (own := [("number", 10)]) (by kernel_rfl)) (fun _ _ _ _ _ => (pg_name (i := 10) nd rfl (by first | exact Or.inl rfl | exact Or.inr rfl))) (gname (by decide)) (fun _ _ _ _ _ => pts_nil) (fun _ _ _ h => w_yes h) (fun _ _ _ _ _ => (dix (dv (pv 0)) (db (dv (pv 10))) (fun _ _ => rfl))))) (acons (dv (pv 2)) anil)) )) (pg_tup rfl (pgs_cons (pg_name (i := 5) nd rfl (by first | exact Or.inl rfl | exact Or.inr rfl)) (pgs_cons (pg_name (i := 6) nd rfl (by first | exact Or.inl rfl | exact Or.inr rfl)) (pgs_cons (pg_name (i := 7) nd rfl (by first | exact Or.inl rfl | exact Or.inr rfl)) pgs_nil)))) (gtup (gcons (gname (by decide)) (gcons (gname (by decide)) (gcons (gname (by decide)) gnil)))) (scons (sset (ps_setLc (i := 8) rfl nd rfl rfl (sw_true rfl rfl rfl (by decide +kernel)) (izip (by rfl) m.b_zip (acons (dv (pv 5)) (acons (dv (pv 6)) anil))) (blkOk_by (own := [("index", 12), ("top", 13)]) (by kernel_rfl)) (fun _ _ _ _ _ => (pg_tup rfl (pgs_cons (pg_name (i := 12) nd rfl (by first | exact Or.inl rfl | exact Or.inr rfl)) (pgs_cons (pg_name (i := 13) nd rfl (by first | exact Or.inl rfl | exact Or.inr rfl)) pgs_nil)))) (fun _ _ _ _ _ => pts_nil) (fun _ _ _ _ _ => (dcall h_taken hr (by rfl) (acons (dtup (acons (dv (pv 13)) (acons (dv (pv 7)) anil))) (acons (dix (dv (pv 1)) (db (dix (dv (pv 3)) (db (dv (pv 12))) (fun _ _ => rfl))) (fun _ _ => rfl)) anil)) ))) (fun _ _ _ h => w_lc (gtup (gcons (gname (by decide)) (gcons (gname (by decide)) gnil))) (fun _ _ _ h => w_yes h) (w_L h)))
  (scons (sset1 (ps_set (i := 9) nd rfl (by first | exact Or.inl rfl | exact Or.inr rfl) (dcall h_summed hr (by rfl) (acons (dv (pv 8)) anil) )))
  (sone (sif (PW.pt (dor (dct o_is op_isN (dv (pv 4)) (db dnone) (nomark _)) (dor1 (dT (dcall h_is_below hr (by rfl) (acons (dv (pv 9)) (acons (dv (pv 4)) anil)) ))))) (sone (sset1 (ps_set (i := 4) nd rfl (by first | exact Or.inl rfl | exact Or.inr rfl) (dv (pv 9))))) snil)))))
  (sone (sret (dv (pv 4)))))))
theorem k_greatest_in (c : Ct P w K mg base) : Has P w K mg base "greatest_in" 3 15 (spD K g_greatest_in) := by
  obtain ⟨f, fd, F, gm⟩ := c.f_greatest_in
  exact hasD 3 11 F sc_greatest_in gm (F.bindsN fun _ _ _ _ _ _ us hl => match us, hl with | [_, _, _], _ => rfl) rfl rfl (b_greatest_in c.m (h_positive_ways c) (h_taken c) (h_summed c) (h_is_below c))
theorem h_greatest_in (c : Ct P w K mg base) : Has P w K mg base "greatest_in" 3 15 (spD K gm_greatest_in) := k_greatest_in c
theorem sc_need_points : FnScope ["book", "world"] ["book", "world"] (defScope (topS 49)) := ⟨rfl, rfl, rfl, by decide +kernel, rfl, by decide +kernel, by decide +kernel⟩
theorem b_need_points (m : Mg mg) (h_some_point : Has P w K mg base "some_point" 2 16 (spD K gm_some_point)) : BodyOk P w K mg base ["book", "world"] "need_points" (topS 49) 16 [] s_need_points := fun f cdv A outer sh H hr => by
  have nd := sc_need_points.nd
  exact (sone (sif (dct o_is op_isN (dcall h_some_point hr (by rfl) (acons (dv (pv 0)) (acons (dv (pv 1)) anil)) ) (db dnone) (nomark _)) (sone sno) snil))
theorem k_need_points (c : Ct P w K mg base) : Has P w K mg base "need_points" 2 17 (spD K g_need_points) := by
  obtain ⟨f, fd, F, gm⟩ := c.f_need_points
  exact hasD 2 0 F sc_need_points gm (F.bindsN fun _ _ _ _ _ _ us hl => match us, hl with | [_, _], _ => rfl) rfl rfl (b_need_points c.m (h_some_point c))
theorem h_need_points (c : Ct P w K mg base) : Has P w K mg base "need_points" 2 17 (spD K gm_need_points) := k_need_points c
theorem sc_need_one : FnScope ["book", "world"] ["book", "world"] (defScope (topS 51)) := ⟨rfl, rfl, rfl, by decide +kernel, rfl, by decide +kernel, by decide +kernel⟩
theorem b_need_one (m : Mg mg) (h_need_book : Has P w K mg base "need_book" 1 5 (spD K gm_need_book)) (h_need_world : Has P w K mg base "need_world" 2 5 (spD K gm_need_world)) : BodyOk P w K mg base ["book", "world"] "need_one" (topS 51) 5 [] s_need_one := fun f cdv A outer sh H hr => by
  have nd := sc_need_one.nd
  exact (scons (sexpr (dcall h_need_book hr (by rfl) (acons (dv (pv 0)) anil) ))
  (sone (sexpr (dcall h_need_world hr (by rfl) (acons (dv (pv 0)) (acons (dv (pv 1)) anil)) ))))
theorem k_need_one (c : Ct P w K mg base) : Has P w K mg base "need_one" 2 6 (spD K g_need_one) := by
  obtain ⟨f, fd, F, gm⟩ := c.f_need_one
  exact hasD 2 0 F sc_need_one gm (F.bindsN fun _ _ _ _ _ _ us hl => match us, hl with | [_, _], _ => rfl) rfl rfl (b_need_one c.m (h_need_book c) (h_need_world c))
theorem h_need_one (c : Ct P w K mg base) : Has P w K mg base "need_one" 2 6 (spD K gm_need_one) := k_need_one c
theorem sc_tight_in : FnScope ["book", "world", "kind"] ["book", "world"] (defScope (topS 52)) := ⟨rfl, rfl, rfl, by decide +kernel, rfl, by decide +kernel, by decide +kernel⟩
theorem b_tight_in (m : Mg mg) (h_greatest_in : Has P w K mg base "greatest_in" 3 15 (spD K gm_greatest_in)) : BodyOk P w K mg base ["book", "world", "kind"] "tight_in" (topS 52) 15 [] s_tight_in := fun f cdv A outer sh H hr => by
  have nd := sc_tight_in.nd
  exact (sone (sret (dL (dlc rfl nd (iseq (dv (pv 0))) (blkOk_by (own := [("kind", 2)]) (by kernel_rfl)) (fun _ _ _ _ _ => (pg_name (i := 2) nd rfl (by first | exact Or.inl rfl | exact Or.inr rfl))) (gname (by decide)) (fun _ _ _ _ _ => pts_nil) (fun _ _ _ h => w_yes h) (fun _ _ _ _ _ => (dcall h_greatest_in hr (by rfl) (acons (dv (pv 0)) (acons (dv (pv 1)) (acons (dv (pv 2)) anil))) ))))))
theorem k_tight_in (c : Ct P w K mg base) : Has P w K mg base "tight_in" 2 16 (spD K g_tight_in) := by
  obtain ⟨f, fd, F, gm⟩ := c.f_tight_in
  exact hasD 2 1 F sc_tight_in gm (F.bindsN fun _ _ _ _ _ _ us hl => match us, hl with | [_, _], _ => rfl) rfl rfl (b_tight_in c.m (h_greatest_in c))
theorem h_tight_in (c : Ct P w K mg base) : Has P w K mg base "tight_in" 2 16 (spD K gm_tight_in) := k_tight_in c
theorem sc_tight : FnScope ["book", "world"] ["book", "world"] (defScope (topS 53)) := ⟨rfl, rfl, rfl, by decide +kernel, rfl, by decide +kernel, by decide +kernel⟩
theorem b_tight (m : Mg mg) (h_need_one : Has P w K mg base "need_one" 2 6 (spD K gm_need_one)) (h_need_points : Has P w K mg base "need_points" 2 17 (spD K gm_need_points)) (h_tight_in : Has P w K mg base "tight_in" 2 16 (spD K gm_tight_in)) : BodyOk P w K mg base ["book", "world"] "tight" (topS 53) 17 [] s_tight := fun f cdv A outer sh H hr => by
  have nd := sc_tight.nd
  exact (scons (sexpr (dcall h_need_one hr (by rfl) (acons (dv (pv 0)) (acons (dv (pv 1)) anil)) ))
  (scons (sexpr (dcall h_need_points hr (by rfl) (acons (dv (pv 0)) (acons (dv (pv 1)) anil)) ))
  (sone (sret (dcall h_tight_in hr (by rfl) (acons (dv (pv 0)) (acons (dv (pv 1)) anil)) )))))
theorem k_tight (c : Ct P w K mg base) : Has P w K mg base "tight" 2 18 (spD K g_tight) := by
  obtain ⟨f, fd, F, gm⟩ := c.f_tight
  exact hasD 2 0 F sc_tight gm (F.bindsN fun _ _ _ _ _ _ us hl => match us, hl with | [_, _], _ => rfl) rfl rfl (b_tight c.m (h_need_one c) (h_need_points c) (h_tight_in c))
theorem h_tight (c : Ct P w K mg base) : Has P w K mg base "tight" 2 18 (spD K gm_tight) := k_tight c
theorem sc_meets : FnScope ["found", "world", "knot"] ["found", "world"] (defScope (topS 55)) := ⟨rfl, rfl, rfl, by decide +kernel, rfl, by decide +kernel, by decide +kernel⟩
theorem b_meets (m : Mg mg) (h_is_broken : Has P w K mg base "is_broken" 2 6 (spD K gm_is_broken)) : BodyOk P w K mg base ["found", "world", "knot"] "meets" (topS 55) 6 [] s_meets := fun f cdv A outer sh H hr => by
  have nd := sc_meets.nd
  exact (sone (sret (dnotV (dB1 o_any (cr_any rfl) (by rfl) m.b_any (by decide +kernel) (db (dL (dlc rfl nd (iseq (dv (pv 0))) (blkOk_by (own := [("knot", 2)]) (by kernel_rfl)) (fun _ _ _ _ _ => (pg_name (i := 2) nd rfl (by first | exact Or.inl rfl | exact Or.inr rfl))) (gname (by decide)) (fun _ _ _ _ _ => pts_nil) (fun _ _ _ h => w_yes h) (fun _ _ _ _ _ => (dcall h_is_broken hr (by rfl) (acons (dv (pv 2)) (acons (dv (pv 1)) anil)) )))))))))
theorem k_meets (c : Ct P w K mg base) : Has P w K mg base "meets" 2 7 (spD K g_meets) := by
  obtain ⟨f, fd, F, gm⟩ := c.f_meets
  exact hasD 2 1 F sc_meets gm (F.bindsN fun _ _ _ _ _ _ us hl => match us, hl with | [_, _], _ => rfl) rfl rfl (b_meets c.m (h_is_broken c))
theorem h_meets (c : Ct P w K mg base) : Has P w K mg base "meets" 2 7 (spD K gm_meets) := k_meets c
theorem sc_is_party : FnScope ["book", "value", "rule"] ["book", "value"] (defScope (topS 59)) := ⟨rfl, rfl, rfl, by decide +kernel, rfl, by decide +kernel, by decide +kernel⟩
theorem b_is_party (m : Mg mg) (h_is_rule_of : Has P w K mg base "is_rule_of" 2 4 (spD K gm_is_rule_of)) : BodyOk P w K mg base ["book", "value", "rule"] "is_party" (topS 59) 4 [] s_is_party := fun f cdv A outer sh H hr => by
  have nd := sc_is_party.nd
  exact (scons (sif (PW.pt (dor (dnot (dT (disi (T := "list") (by decide) (by rfl) m.b_isinstance (by rfl) m.b_list (by decide +kernel) (db (dv (pv 1)))))) (dor1 (dct o_B op_gt (dB1 o_len call_len (by rfl) m.b_len (by decide +kernel) (db (dv (pv 1)))) (db (dglobI (by rfl) m.c_MOST_IN_PARTY)) (nomark _))))) (sone (sret dbl)) snil)
  (sone (sret (dB1 o_all (cr_all rfl) (by rfl) m.b_all (by decide +kernel) (db (dL (dlc rfl nd (iseq (dv (pv 1))) (blkOk_by (own := [("rule", 2)]) (by kernel_rfl)) (fun _ _ _ _ _ => (pg_name (i := 2) nd rfl (by first | exact Or.inl rfl | exact Or.inr rfl))) (gname (by decide)) (fun _ _ _ _ _ => pts_nil) (fun _ _ _ h => w_yes h) (fun _ _ _ _ _ => (dcall h_is_rule_of hr (by rfl) (acons (dv (pv 0)) (acons (dv (pv 2)) anil)) )))))))))
theorem k_is_party (c : Ct P w K mg base) : Has P w K mg base "is_party" 2 5 (spD K g_is_party) := by
  obtain ⟨f, fd, F, gm⟩ := c.f_is_party
  exact hasD 2 1 F sc_is_party gm (F.bindsN fun _ _ _ _ _ _ us hl => match us, hl with | [_, _], _ => rfl) rfl rfl (b_is_party c.m (h_is_rule_of c))
theorem h_is_party (c : Ct P w K mg base) : Has P w K mg base "is_party" 2 5 (spD K gm_is_party) := k_is_party c
theorem sc_need_parties : FnScope ["book", "parties", "index", "party"] ["book", "parties"] (defScope (topS 60)) := ⟨rfl, rfl, rfl, by decide +kernel, rfl, by decide +kernel, by decide +kernel⟩
theorem b_need_parties (m : Mg mg) (h_is_party : Has P w K mg base "is_party" 2 5 (spD K gm_is_party)) : BodyOk P w K mg base ["book", "parties", "index", "party"] "need_parties" (topS 60) 5 [] s_need_parties := fun f cdv A outer sh H hr => by
  have nd := sc_need_parties.nd
  exact (scons (sif (PW.pt (dor (dnot (dT (disi (T := "list") (by decide) (by rfl) m.b_isinstance (by rfl) m.b_list (by decide +kernel) (db (dv (pv 1)))))) (dor1 (dnot (dcht o_B o_B op_le op_le dint (dB1 o_len call_len (by rfl) m.b_len (by decide +kernel) (db (dv (pv 1)))) (db (dglobI (by rfl) m.c_MOST_PARTIES))))))) (sone sno) snil)
  (sone (sfor (vs := [2, 3]) rfl (ienum (by rfl) m.b_enumerate (acons (dv (pv 1)) anil)) (pg_tup rfl (pgs_cons (pg_name (i := 2) nd rfl (by first | exact Or.inl rfl | exact Or.inr rfl)) (pgs_cons (pg_name (i := 3) nd rfl (by first | exact Or.inl rfl | exact Or.inr rfl)) pgs_nil))) (gtup (gcons (gname (by decide)) (gcons (gname (by decide)) gnil))) (sone (sif (dnot (dT (dcall h_is_party hr (by rfl) (acons (dv (pv 0)) (acons (dv (pv 3)) anil)) ))) (sone sno) snil)))))
theorem k_need_parties (c : Ct P w K mg base) : Has P w K mg base "need_parties" 2 6 (spD K g_need_parties) := by
  obtain ⟨f, fd, F, gm⟩ := c.f_need_parties
  exact hasD 2 2 F sc_need_parties gm (F.bindsN fun _ _ _ _ _ _ us hl => match us, hl with | [_, _], _ => rfl) rfl rfl (b_need_parties c.m (h_is_party c))
theorem h_need_parties (c : Ct P w K mg base) : Has P w K mg base "need_parties" 2 6 (spD K gm_need_parties) := k_need_parties c
theorem sc_need_book_and_parties : FnScope ["book", "parties"] ["book", "parties"] (defScope (topS 61)) := ⟨rfl, rfl, rfl, by decide +kernel, rfl, by decide +kernel, by decide +kernel⟩
theorem b_need_book_and_parties (m : Mg mg) (h_need_book : Has P w K mg base "need_book" 1 5 (spD K gm_need_book)) (h_need_parties : Has P w K mg base "need_parties" 2 6 (spD K gm_need_parties)) : BodyOk P w K mg base ["book", "parties"] "need_book_and_parties" (topS 61) 6 [] s_need_book_and_parties := fun f cdv A outer sh H hr => by
  have nd := sc_need_book_and_parties.nd
  exact (scons (sexpr (dcall h_need_book hr (by rfl) (acons (dv (pv 0)) anil) ))
  (sone (sexpr (dcall h_need_parties hr (by rfl) (acons (dv (pv 0)) (acons (dv (pv 1)) anil)) ))))
theorem k_need_book_and_parties (c : Ct P w K mg base) : Has P w K mg base "need_book_and_parties" 2 7 (spD K g_need_book_and_parties) := by
  obtain ⟨f, fd, F, gm⟩ := c.f_need_book_and_parties
  exact hasD 2 0 F sc_need_book_and_parties gm (F.bindsN fun _ _ _ _ _ _ us hl => match us, hl with | [_, _], _ => rfl) rfl rfl (b_need_book_and_parties c.m (h_need_book c) (h_need_parties c))
theorem h_need_book_and_parties (c : Ct P w K mg base) : Has P w K mg base "need_book_and_parties" 2 7 (spD K gm_need_book_and_parties) := k_need_book_and_parties c
theorem sc_bounds_of : FnScope ["numbers", "parties", "indexes", "index", "rule"] ["numbers", "parties", "indexes"] (defScope (topS 62)) := ⟨rfl, rfl, rfl, by decide +kernel, rfl, by decide +kernel, by decide +kernel⟩
theorem b_bounds_of (m : Mg mg) (h_least_bounds : Has P w K mg base "least_bounds" 2 2 (spD K gm_least_bounds)) : BodyOk P w K mg base ["numbers", "parties", "indexes", "index", "rule"] "bounds_of" (topS 62) 2 [] s_bounds_of := fun f cdv A outer sh H hr => by
  have nd := sc_bounds_of.nd
  exact (sone (sret (dcall h_least_bounds hr (by rfl) (acons (dv (pv 0)) (acons (dL (dlc2 (vs1 := [4]) rfl nd (iseq (dv (pv 2))) (blkOk_by (own := [("index", 3), ("rule", 4)]) (by kernel_rfl)) (by decide) (fun _ _ _ _ _ => (pg_name (i := 3) nd rfl (by first | exact Or.inl rfl | exact Or.inr rfl))) (gname (by decide)) (fun _ _ _ _ _ => pts_nil) (fun _ _ _ h => w_yes h) (fun _ _ _ _ _ => (iseq (dix (dv (pv 1)) (db (dv (pv 3))) (fun _ _ => rfl)))) (fun _ _ _ _ _ => (pg_name (i := 4) nd rfl (by first | exact Or.inl rfl | exact Or.inr rfl))) (gname (by decide)) (fun _ _ _ _ _ => pts_nil) (fun _ _ _ h => w_yes h) (fun _ _ _ _ _ => (dv (pv 4))))) anil)) )))
theorem k_bounds_of (c : Ct P w K mg base) : Has P w K mg base "bounds_of" 3 3 (spD K g_bounds_of) := by
  obtain ⟨f, fd, F, gm⟩ := c.f_bounds_of
  exact hasD 3 2 F sc_bounds_of gm (F.bindsN fun _ _ _ _ _ _ us hl => match us, hl with | [_, _, _], _ => rfl) rfl rfl (b_bounds_of c.m (h_least_bounds c))
theorem h_bounds_of (c : Ct P w K mg base) : Has P w K mg base "bounds_of" 3 3 (spD K gm_bounds_of) := k_bounds_of c
theorem sc_all_sets : FnScope ["number", "found", "last", "step", "one", "index"] ["number"] (defScope (topS 63)) := ⟨rfl, rfl, rfl, by decide +kernel, rfl, by decide +kernel, by decide +kernel⟩
theorem b_all_sets (m : Mg mg)  : BodyOk P w K mg base ["number", "found", "last", "step", "one", "index"] "all_sets" (topS 63) 0 [] s_all_sets := fun f cdv A outer sh H hr => by
  have nd := sc_all_sets.nd
  exact (scons (spar2 (i := 1) (j := 2) (ia := (Itm.n (eAs gLs (eAc (eL (eAs gLs eAn)) eAn)))) (ib := (Itm.e (eL (eAs gLs (eAc (eL (eAs gLs eAn)) eAn))))) rfl nd rfl rfl (by decide) rfl rfl (by decide) (dlst (acons (dL (dlst anil)) anil)) (dL (dlst (acons (dL (dlst anil)) anil))) (by rfl))
  (scons (sfor (vs := [3]) rfl (irange1 (by rfl) m.b_range (acons (dv (pv 0)) anil)) (pg_name (i := 3) nd rfl (by first | exact Or.inl rfl | exact Or.inr rfl)) (gname (by decide)) (scons (sset (ps_setLc2 (i := 2) rfl nd rfl rfl (by first | exact sw_true rfl rfl rfl (by decide +kernel) | rfl) (iseq (dv (pv 2))) (blkOk_by (own := [("one", 4), ("index", 5)]) (by kernel_rfl)) (vs1 := [5]) (by decide) (fun _ _ _ _ _ => (pg_name (i := 4) nd rfl (by first | exact Or.inl rfl | exact Or.inr rfl))) (fun _ _ _ _ _ => pts_nil) (fun _ _ _ _ _ => (irange2 (by rfl) m.b_range (acons (difx (dct o_ne (op_neD hr.units) (dv (pv 4)) (db (dL (dlst anil))) (nomark _)) (d2 o_add op_addX (dix (dv (pv 4)) (db (dneg (db dint))) (fun _ _ => rfl)) (db dint)) dint) (acons (dv (pv 0)) anil)))) (fun _ _ _ _ _ => (pg_name (i := 5) nd rfl (by first | exact Or.inl rfl | exact Or.inr rfl))) (fun _ _ _ _ _ => pts_nil) (fun _ _ _ _ _ => (dL (dlst (astar (db (dv (pv 4))) (acons (dv (pv 5)) anil)))))) (fun _ _ _ h => w_lc2 (by decide) (gname (by decide)) (fun _ _ _ h => w_yes h) (gname (by decide)) (fun _ _ _ h => w_yes h) (w_L h)))
  (sone (sexpr (dext (pv 1) (dv (pv 2)))))))
  (sone (sfz [1] (sret (dv (pv 1)))))))
theorem k_all_sets (c : Ct P w K mg base) : Has P w K mg base "all_sets" 1 1 (spD K g_all_sets) := by
  obtain ⟨f, fd, F, gm⟩ := c.f_all_sets
  exact hasD 1 5 F sc_all_sets gm (F.bindsN fun _ _ _ _ _ _ us hl => match us, hl with | [_], _ => rfl) rfl rfl (b_all_sets c.m )
theorem h_all_sets (c : Ct P w K mg base) : Has P w K mg base "all_sets" 1 1 (spD K gm_all_sets) := k_all_sets c
theorem sc_sets_by : FnScope ["knots", "many", "parties", "found", "numbers", "indexes", "within", "one", "index"] ["knots", "many", "parties"] (defScope (topS 64)) := ⟨rfl, rfl, rfl, by decide +kernel, rfl, by decide +kernel, by decide +kernel⟩
theorem b_sets_by (m : Mg mg) (h_all_sets : Has P w K mg base "all_sets" 1 1 (spD K gm_all_sets)) (h_meets : Has P w K mg base "meets" 2 7 (spD K gm_meets)) (h_bounds_of : Has P w K mg base "bounds_of" 3 3 (spD K gm_bounds_of)) : BodyOk P w K mg base ["knots", "many", "parties", "found", "numbers", "indexes", "within", "one", "index"] "sets_by" (topS 64) 7 [] s_sets_by := fun f cdv A outer sh H hr => by
  have nd := sc_sets_by.nd
  exact (scons (spar2 (i := 3) (j := 4) (ia := (Itm.n (eAs gLs eAn))) (ib := (Itm.e (eL (e1 rgL1 (eV 1))))) rfl nd rfl rfl (by decide) rfl rfl (by decide) (dlst anil) (dL (dlrg1 rfl (by rfl) m.b_list (by rfl) m.b_range (db (dv (pv 1))))) (by rfl))
  (scons (sfor (vs := [5]) rfl (iseq (dcall h_all_sets hr (by rfl) (acons (dB1 o_len call_len (by rfl) m.b_len (by decide +kernel) (db (dv (pv 2)))) anil) )) (pg_name (i := 5) nd rfl (by first | exact Or.inl rfl | exact Or.inr rfl)) (gname (by decide)) (scons (sset1 (ps_set (i := 6) nd rfl (by first | exact Or.inl rfl | exact Or.inr rfl) (dB1 o_any (cr_any rfl) (by rfl) m.b_any (by decide +kernel) (db (dL (dlcM rfl nd (pv 3) (blkOk_by (own := [("one", 7)]) (by kernel_rfl)) (fun _ _ _ _ _ => (pg_name (i := 7) nd rfl (by first | exact Or.inl rfl | exact Or.inr rfl))) (gname (by decide)) (fun _ _ _ _ _ => pts_nil) (fun _ _ _ h => w_yes h) (fun _ _ _ _ _ => (dB1 o_all (cr_all rfl) (by rfl) m.b_all (by decide +kernel) (db (dL (dlc rfl nd (iseq (dv (pv 7))) (blkOk_by (own := [("index", 8)]) (by kernel_rfl)) (fun _ _ _ _ _ => (pg_name (i := 8) nd rfl (by first | exact Or.inl rfl | exact Or.inr rfl))) (gname (by decide)) (fun _ _ _ _ _ => pts_nil) (fun _ _ _ h => w_yes h) (fun _ _ _ _ _ => (dc o_in (op_inD (rm65 hr)) (dv (pv 8)) (db (dv (pv 5))) (by rfl))))))))))))))
  (sone (sif (PW.pt (dand (dnot (dT (dv (pv 6)))) (dand1 (dnot (dT (dcall h_meets hr (by rfl) (acons (dv (pv 0)) (acons (dcall h_bounds_of hr (by rfl) (acons (dv (pv 4)) (acons (dv (pv 2)) (acons (dv (pv 5)) anil))) ) anil)) )))))) (sone (sexpr (dapp (pv 3) (dv (pv 5))))) snil))))
  (sone (sfz [3] (sret (dv (pv 3)))))))
theorem k_sets_by (c : Ct P w K mg base) : Has P w K mg base "sets_by" 3 8 (spD K g_sets_by) := by
  obtain ⟨f, fd, F, gm⟩ := c.f_sets_by
  exact hasD 3 6 F sc_sets_by gm (F.bindsN fun _ _ _ _ _ _ us hl => match us, hl with | [_, _, _], _ => rfl) rfl rfl (b_sets_by c.m (h_all_sets c) (h_meets c) (h_bounds_of c))
theorem h_sets_by (c : Ct P w K mg base) : Has P w K mg base "sets_by" 3 8 (spD K gm_sets_by) := k_sets_by c
theorem sc_clashing_sets : FnScope ["book", "parties"] ["book", "parties"] (defScope (topS 65)) := ⟨rfl, rfl, rfl, by decide +kernel, rfl, by decide +kernel, by decide +kernel⟩
theorem b_clashing_sets (m : Mg mg) (h_sets_by : Has P w K mg base "sets_by" 3 8 (spD K gm_sets_by)) (h_knots_in : Has P w K mg base "knots_in" 1 14 (spD K gm_knots_in)) : BodyOk P w K mg base ["book", "parties"] "clashing_sets" (topS 65) 14 [] s_clashing_sets := fun f cdv A outer sh H hr => by
  have nd := sc_clashing_sets.nd
  exact (sone (sret (dcall h_sets_by hr (by rfl) (acons (dcall h_knots_in hr (by rfl) (acons (dv (pv 0)) anil) ) (acons (dB1 o_len call_len (by rfl) m.b_len (by decide +kernel) (db (dv (pv 0)))) (acons (dv (pv 1)) anil))) )))
theorem k_clashing_sets (c : Ct P w K mg base) : Has P w K mg base "clashing_sets" 2 15 (spD K g_clashing_sets) := by
  obtain ⟨f, fd, F, gm⟩ := c.f_clashing_sets
  exact hasD 2 0 F sc_clashing_sets gm (F.bindsN fun _ _ _ _ _ _ us hl => match us, hl with | [_, _], _ => rfl) rfl rfl (b_clashing_sets c.m (h_sets_by c) (h_knots_in c))
theorem h_clashing_sets (c : Ct P w K mg base) : Has P w K mg base "clashing_sets" 2 15 (spD K gm_clashing_sets) := k_clashing_sets c
theorem sc_meeting_sets : FnScope ["book", "parties", "clashing", "found", "indexes", "one", "index"] ["book", "parties"] (defScope (topS 66)) := ⟨rfl, rfl, rfl, by decide +kernel, rfl, by decide +kernel, by decide +kernel⟩
theorem b_meeting_sets (m : Mg mg) (h_clashing_sets : Has P w K mg base "clashing_sets" 2 15 (spD K gm_clashing_sets)) (h_all_sets : Has P w K mg base "all_sets" 1 1 (spD K gm_all_sets)) : BodyOk P w K mg base ["book", "parties", "clashing", "found", "indexes", "one", "index"] "meeting_sets" (topS 66) 15 [] s_meeting_sets := fun f cdv A outer sh H hr => by
  have nd := sc_meeting_sets.nd
  exact (scons (sset1 (ps_set (i := 2) nd rfl (by first | exact Or.inl rfl | exact Or.inr rfl) (dcall h_clashing_sets hr (by rfl) (acons (dv (pv 0)) (acons (dv (pv 1)) anil)) )))
  (scons (ssetN1 (by decide) (ps_set (i := 3) nd rfl (by first | exact Or.inl rfl | exact Or.inr rfl) (dlst anil)))
  (scons (sfor (vs := [4]) rfl (iseq (dcall h_all_sets hr (by rfl) (acons (dB1 o_len call_len (by rfl) m.b_len (by decide +kernel) (db (dv (pv 1)))) anil) )) (pg_name (i := 4) nd rfl (by first | exact Or.inl rfl | exact Or.inr rfl)) (gname (by decide)) (sone (sif (dnot (dT (dB1 o_any (cr_any rfl) (by rfl) m.b_any (by decide +kernel) (db (dL (dlc rfl nd (iseq (dv (pv 2))) (blkOk_by (own := [("one", 5)]) (by kernel_rfl)) (fun _ _ _ _ _ => (pg_name (i := 5) nd rfl (by first | exact Or.inl rfl | exact Or.inr rfl))) (gname (by decide)) (fun _ _ _ _ _ => pts_nil) (fun _ _ _ h => w_yes h) (fun _ _ _ _ _ => (dB1 o_all (cr_all rfl) (by rfl) m.b_all (by decide +kernel) (db (dL (dlc rfl nd (iseq (dv (pv 5))) (blkOk_by (own := [("index", 6)]) (by kernel_rfl)) (fun _ _ _ _ _ => (pg_name (i := 6) nd rfl (by first | exact Or.inl rfl | exact Or.inr rfl))) (gname (by decide)) (fun _ _ _ _ _ => pts_nil) (fun _ _ _ h => w_yes h) (fun _ _ _ _ _ => (dc o_in (op_inD (rm65 hr)) (dv (pv 6)) (db (dv (pv 4))) (by rfl)))))))))))))) (sone (sexpr (dapp (pv 3) (dv (pv 4))))) snil)))
  (sone (sret (dL (dlcM rfl nd (pv 3) (blkOk_by (own := [("indexes", 4)]) (by kernel_rfl)) (fun _ _ _ _ _ => (pg_name (i := 4) nd rfl (by first | exact Or.inl rfl | exact Or.inr rfl))) (gname (by decide)) (fun _ _ _ _ _ => (pts_one (dct o_eq (op_eqD hr.units) (dB1 o_len call_len (by rfl) m.b_len (by decide +kernel) (db (dv (pv 4)))) (db (dB1 o_len call_len (by rfl) m.b_len (by decide +kernel) (db (dixL (pv 3) (db (dneg (db dint))) (fun _ _ => rfl))))) (nomark _)))) (fun _ _ _ h => h) (fun _ _ _ _ _ => (dv (pv 4))))))))))
theorem k_meeting_sets (c : Ct P w K mg base) : Has P w K mg base "meeting_sets" 2 16 (spD K g_meeting_sets) := by
  obtain ⟨f, fd, F, gm⟩ := c.f_meeting_sets
  exact hasD 2 5 F sc_meeting_sets gm (F.bindsN fun _ _ _ _ _ _ us hl => match us, hl with | [_, _], _ => rfl) rfl rfl (b_meeting_sets c.m (h_clashing_sets c) (h_all_sets c))
theorem h_meeting_sets (c : Ct P w K mg base) : Has P w K mg base "meeting_sets" 2 16 (spD K gm_meeting_sets) := k_meeting_sets c
theorem sc_all_meet : FnScope ["book", "parties"] ["book", "parties"] (defScope (topS 67)) := ⟨rfl, rfl, rfl, by decide +kernel, rfl, by decide +kernel, by decide +kernel⟩
theorem b_all_meet (m : Mg mg) (h_need_book_and_parties : Has P w K mg base "need_book_and_parties" 2 7 (spD K gm_need_book_and_parties)) (h_meets : Has P w K mg base "meets" 2 7 (spD K gm_meets)) (h_bounds_of : Has P w K mg base "bounds_of" 3 3 (spD K gm_bounds_of)) (h_knots_in : Has P w K mg base "knots_in" 1 14 (spD K gm_knots_in)) : BodyOk P w K mg base ["book", "parties"] "all_meet" (topS 67) 14 [] s_all_meet := fun f cdv A outer sh H hr => by
  have nd := sc_all_meet.nd
  exact (scons (sexpr (dcall h_need_book_and_parties hr (by rfl) (acons (dv (pv 0)) (acons (dv (pv 1)) anil)) ))
  (sone (sret (dcall h_meets hr (by rfl) (acons (dcall h_knots_in hr (by rfl) (acons (dv (pv 0)) anil) ) (acons (dcall h_bounds_of hr (by rfl) (acons (dv (pv 0)) (acons (dv (pv 1)) (acons (dL (dlrg1 rfl (by rfl) m.b_list (by rfl) m.b_range (db (dB1 o_len call_len (by rfl) m.b_len (by decide +kernel) (db (dv (pv 1))))))) anil))) ) anil)) ))))
theorem k_all_meet (c : Ct P w K mg base) : Has P w K mg base "all_meet" 2 15 (spD K g_all_meet) := by
  obtain ⟨f, fd, F, gm⟩ := c.f_all_meet
  exact hasD 2 0 F sc_all_meet gm (F.bindsN fun _ _ _ _ _ _ us hl => match us, hl with | [_, _], _ => rfl) rfl rfl (b_all_meet c.m (h_need_book_and_parties c) (h_meets c) (h_bounds_of c) (h_knots_in c))
theorem h_all_meet (c : Ct P w K mg base) : Has P w K mg base "all_meet" 2 15 (spD K gm_all_meet) := k_all_meet c
theorem sc_party_clashes : FnScope ["book", "parties"] ["book", "parties"] (defScope (topS 68)) := ⟨rfl, rfl, rfl, by decide +kernel, rfl, by decide +kernel, by decide +kernel⟩
theorem b_party_clashes (m : Mg mg) (h_need_book_and_parties : Has P w K mg base "need_book_and_parties" 2 7 (spD K gm_need_book_and_parties)) (h_clashing_sets : Has P w K mg base "clashing_sets" 2 15 (spD K gm_clashing_sets)) : BodyOk P w K mg base ["book", "parties"] "party_clashes" (topS 68) 15 [] s_party_clashes := fun f cdv A outer sh H hr => by
  have nd := sc_party_clashes.nd
  exact (scons (sexpr (dcall h_need_book_and_parties hr (by rfl) (acons (dv (pv 0)) (acons (dv (pv 1)) anil)) ))
  (sone (sret (dL (dB1N o_sort (cr_srt hr.units) (by rfl) m.b_sorted (by decide +kernel) (db (dcall h_clashing_sets hr (by rfl) (acons (dv (pv 0)) (acons (dv (pv 1)) anil)) )))))))
theorem k_party_clashes (c : Ct P w K mg base) : Has P w K mg base "party_clashes" 2 16 (spD K g_party_clashes) := by
  obtain ⟨f, fd, F, gm⟩ := c.f_party_clashes
  exact hasD 2 0 F sc_party_clashes gm (F.bindsN fun _ _ _ _ _ _ us hl => match us, hl with | [_, _], _ => rfl) rfl rfl (b_party_clashes c.m (h_need_book_and_parties c) (h_clashing_sets c))
theorem h_party_clashes (c : Ct P w K mg base) : Has P w K mg base "party_clashes" 2 16 (spD K gm_party_clashes) := k_party_clashes c
theorem sc_crowds : FnScope ["book", "parties"] ["book", "parties"] (defScope (topS 69)) := ⟨rfl, rfl, rfl, by decide +kernel, rfl, by decide +kernel, by decide +kernel⟩
theorem b_crowds (m : Mg mg) (h_need_book_and_parties : Has P w K mg base "need_book_and_parties" 2 7 (spD K gm_need_book_and_parties)) (h_meeting_sets : Has P w K mg base "meeting_sets" 2 16 (spD K gm_meeting_sets)) : BodyOk P w K mg base ["book", "parties"] "crowds" (topS 69) 16 [] s_crowds := fun f cdv A outer sh H hr => by
  have nd := sc_crowds.nd
  exact (scons (sexpr (dcall h_need_book_and_parties hr (by rfl) (acons (dv (pv 0)) (acons (dv (pv 1)) anil)) ))
  (sone (sret (dL (dB1N o_sort (cr_srt hr.units) (by rfl) m.b_sorted (by decide +kernel) (db (dcall h_meeting_sets hr (by rfl) (acons (dv (pv 0)) (acons (dv (pv 1)) anil)) )))))))
theorem k_crowds (c : Ct P w K mg base) : Has P w K mg base "crowds" 2 17 (spD K g_crowds) := by
  obtain ⟨f, fd, F, gm⟩ := c.f_crowds
  exact hasD 2 0 F sc_crowds gm (F.bindsN fun _ _ _ _ _ _ us hl => match us, hl with | [_, _], _ => rfl) rfl rfl (b_crowds c.m (h_need_book_and_parties c) (h_meeting_sets c))
theorem h_crowds (c : Ct P w K mg base) : Has P w K mg base "crowds" 2 17 (spD K gm_crowds) := k_crowds c
theorem sc_fewest_parties_out : FnScope ["book", "parties"] ["book", "parties"] (defScope (topS 70)) := ⟨rfl, rfl, rfl, by decide +kernel, rfl, by decide +kernel, by decide +kernel⟩
theorem b_fewest_parties_out (m : Mg mg) (h_need_book_and_parties : Has P w K mg base "need_book_and_parties" 2 7 (spD K gm_need_book_and_parties)) (h_meeting_sets : Has P w K mg base "meeting_sets" 2 16 (spD K gm_meeting_sets)) : BodyOk P w K mg base ["book", "parties"] "fewest_parties_out" (topS 70) 16 [] s_fewest_parties_out := fun f cdv A outer sh H hr => by
  have nd := sc_fewest_parties_out.nd
  exact (scons (sexpr (dcall h_need_book_and_parties hr (by rfl) (acons (dv (pv 0)) (acons (dv (pv 1)) anil)) ))
  (sone (sret (d2 o_sub op_subX (dB1 o_len call_len (by rfl) m.b_len (by decide +kernel) (db (dv (pv 1)))) (db (dB1 o_len call_len (by rfl) m.b_len (by decide +kernel) (db (dix (dcall h_meeting_sets hr (by rfl) (acons (dv (pv 0)) (acons (dv (pv 1)) anil)) ) (db dint) (fun _ _ => rfl)))))))))
theorem k_fewest_parties_out (c : Ct P w K mg base) : Has P w K mg base "fewest_parties_out" 2 17 (spD K g_fewest_parties_out) := by
  obtain ⟨f, fd, F, gm⟩ := c.f_fewest_parties_out
  exact hasD 2 0 F sc_fewest_parties_out gm (F.bindsN fun _ _ _ _ _ _ us hl => match us, hl with | [_, _], _ => rfl) rfl rfl (b_fewest_parties_out c.m (h_need_book_and_parties c) (h_meeting_sets c))
theorem h_fewest_parties_out (c : Ct P w K mg base) : Has P w K mg base "fewest_parties_out" 2 17 (spD K gm_fewest_parties_out) := k_fewest_parties_out c
theorem sc_meeting_place : FnScope ["book", "parties"] ["book", "parties"] (defScope (topS 71)) := ⟨rfl, rfl, rfl, by decide +kernel, rfl, by decide +kernel, by decide +kernel⟩
theorem b_meeting_place (m : Mg mg) (h_need_book_and_parties : Has P w K mg base "need_book_and_parties" 2 7 (spD K gm_need_book_and_parties)) (h_some_point : Has P w K mg base "some_point" 2 16 (spD K gm_some_point)) (h_bounds_of : Has P w K mg base "bounds_of" 3 3 (spD K gm_bounds_of)) : BodyOk P w K mg base ["book", "parties"] "meeting_place" (topS 71) 16 [] s_meeting_place := fun f cdv A outer sh H hr => by
  have nd := sc_meeting_place.nd
  exact (scons (sexpr (dcall h_need_book_and_parties hr (by rfl) (acons (dv (pv 0)) (acons (dv (pv 1)) anil)) ))
  (sone (sret (dcall h_some_point hr (by rfl) (acons (dv (pv 0)) (acons (dcall h_bounds_of hr (by rfl) (acons (dv (pv 0)) (acons (dv (pv 1)) (acons (dL (dlrg1 rfl (by rfl) m.b_list (by rfl) m.b_range (db (dB1 o_len call_len (by rfl) m.b_len (by decide +kernel) (db (dv (pv 1))))))) anil))) ) anil)) ))))
theorem k_meeting_place (c : Ct P w K mg base) : Has P w K mg base "meeting_place" 2 17 (spD K g_meeting_place) := by
  obtain ⟨f, fd, F, gm⟩ := c.f_meeting_place
  exact hasD 2 0 F sc_meeting_place gm (F.bindsN fun _ _ _ _ _ _ us hl => match us, hl with | [_, _], _ => rfl) rfl rfl (b_meeting_place c.m (h_need_book_and_parties c) (h_some_point c) (h_bounds_of c))
theorem h_meeting_place (c : Ct P w K mg base) : Has P w K mg base "meeting_place" 2 17 (spD K gm_meeting_place) := k_meeting_place c
theorem sc_combined : FnScope ["book", "parties"] ["book", "parties"] (defScope (topS 72)) := ⟨rfl, rfl, rfl, by decide +kernel, rfl, by decide +kernel, by decide +kernel⟩
theorem b_combined (m : Mg mg) (h_need_book_and_parties : Has P w K mg base "need_book_and_parties" 2 7 (spD K gm_need_book_and_parties)) (h_tight : Has P w K mg base "tight" 2 18 (spD K gm_tight)) (h_bounds_of : Has P w K mg base "bounds_of" 3 3 (spD K gm_bounds_of)) : BodyOk P w K mg base ["book", "parties"] "combined" (topS 72) 18 [] s_combined := fun f cdv A outer sh H hr => by
  have nd := sc_combined.nd
  exact (scons (sexpr (dcall h_need_book_and_parties hr (by rfl) (acons (dv (pv 0)) (acons (dv (pv 1)) anil)) ))
  (sone (sret (dcall h_tight hr (by rfl) (acons (dv (pv 0)) (acons (dcall h_bounds_of hr (by rfl) (acons (dv (pv 0)) (acons (dv (pv 1)) (acons (dL (dlrg1 rfl (by rfl) m.b_list (by rfl) m.b_range (db (dB1 o_len call_len (by rfl) m.b_len (by decide +kernel) (db (dv (pv 1))))))) anil))) ) anil)) ))))
theorem k_combined (c : Ct P w K mg base) : Has P w K mg base "combined" 2 19 (spD K g_combined) := by
  obtain ⟨f, fd, F, gm⟩ := c.f_combined
  exact hasD 2 0 F sc_combined gm (F.bindsN fun _ _ _ _ _ _ us hl => match us, hl with | [_, _], _ => rfl) rfl rfl (b_combined c.m (h_need_book_and_parties c) (h_tight c) (h_bounds_of c))
theorem h_combined (c : Ct P w K mg base) : Has P w K mg base "combined" 2 19 (spD K gm_combined) := k_combined c
theorem sc_with_items : FnScope ["size", "items", "found", "index", "item"] ["size", "items"] (defScope (topS 74)) := ⟨rfl, rfl, rfl, by decide +kernel, rfl, by decide +kernel, by decide +kernel⟩
theorem b_with_items (m : Mg mg)  : BodyOk P w K mg base ["size", "items", "found", "index", "item"] "with_items" (topS 74) 0 [] s_with_items := fun f cdv A outer sh H hr => by
  have nd := sc_with_items.nd
  exact (scons (ssetN1 (by decide) (ps_set (i := 2) nd rfl (by first | exact Or.inl rfl | exact Or.inr rfl) (d2N o_repN op_rep (dL (dlst (acons dint anil))) (db (dv (pv 0))))))
  (scons (sfor (vs := [3, 4]) rfl (iseq (dv (pv 1))) (pg_tup rfl (pgs_cons (pg_name (i := 3) nd rfl (by first | exact Or.inl rfl | exact Or.inr rfl)) (pgs_cons (pg_name (i := 4) nd rfl (by first | exact Or.inl rfl | exact Or.inr rfl)) pgs_nil))) (gtup (gcons (gname (by decide)) (gcons (gname (by decide)) gnil))) (sone (sst (ps_asg (dv (pv 4)) (pg_sub (pv 2) (dv (pv 3)) set_list)))))
  (sone (sret (dT1 o_tuple call_tuple_of (by rfl) m.b_tuple (by decide +kernel) (dmb (pv 2)))))))
theorem k_with_items (c : Ct P w K mg base) : Has P w K mg base "with_items" 2 1 (spD K g_with_items) := by
  obtain ⟨f, fd, F, gm⟩ := c.f_with_items
  exact hasD 2 3 F sc_with_items gm (F.bindsN fun _ _ _ _ _ _ us hl => match us, hl with | [_, _], _ => rfl) rfl rfl (b_with_items c.m )
theorem h_with_items (c : Ct P w K mg base) : Has P w K mg base "with_items" 2 1 (spD K gm_with_items) := k_with_items c
theorem sc_boxes : FnScope ["number", "ups", "index"] ["number"] (defScope (topS 75)) := ⟨rfl, rfl, rfl, by decide +kernel, rfl, by decide +kernel, by decide +kernel⟩
theorem b_boxes (m : Mg mg) (h_need_number : Has P w K mg base "need_number" 3 2 (spD K gm_need_number)) (h_with_items : Has P w K mg base "with_items" 2 1 (spD K gm_with_items)) : BodyOk P w K mg base ["number", "ups", "index"] "boxes" (topS 75) 2 [] s_boxes := fun f cdv A outer sh H hr => by
  have nd := sc_boxes.nd
  exact (scons (sexpr (dcall h_need_number hr (by rfl) (acons (dv (pv 0)) (acons dint (acons dint anil))) ))
  (scons (sset (ps_setLc (i := 1) rfl nd rfl rfl (sw_true rfl rfl rfl (by decide +kernel)) (irange1 (by rfl) m.b_range (acons (dv (pv 0)) anil)) (blkOk_by (own := [("index", 2)]) (by kernel_rfl)) (fun _ _ _ _ _ => (pg_name (i := 2) nd rfl (by first | exact Or.inl rfl | exact Or.inr rfl))) (fun _ _ _ _ _ => pts_nil) (fun _ _ _ _ _ => (dcall h_with_items hr (by rfl) (acons (dv (pv 0)) (acons (dL (dlst (acons (dtup (acons (dv (pv 2)) (acons dint anil))) anil))) anil)) ))) (fun _ _ _ h => w_lc (gname (by decide)) (fun _ _ _ h => w_yes h) (w_L h)))
  (sone (sret (dL (dB1N o_sort (cr_srt hr.units) (by rfl) m.b_sorted (by decide +kernel) (db (d2 o_add op_addX (dv (pv 1)) (db (dL (dlc rfl nd (irange1 (by rfl) m.b_range (acons (dv (pv 0)) anil)) (blkOk_by (own := [("index", 2)]) (by kernel_rfl)) (fun _ _ _ _ _ => (pg_name (i := 2) nd rfl (by first | exact Or.inl rfl | exact Or.inr rfl))) (gname (by decide)) (fun _ _ _ _ _ => pts_nil) (fun _ _ _ h => w_yes h) (fun _ _ _ _ _ => (dcall h_with_items hr (by rfl) (acons (dv (pv 0)) (acons (dL (dlst (acons (dtup (acons (dv (pv 2)) (acons (dneg (db dint)) anil))) anil))) anil)) )))))))))))))
theorem k_boxes (c : Ct P w K mg base) : Has P w K mg base "boxes" 1 3 (spD K g_boxes) := by
  obtain ⟨f, fd, F, gm⟩ := c.f_boxes
  exact hasD 1 2 F sc_boxes gm (F.bindsN fun _ _ _ _ _ _ us hl => match us, hl with | [_], _ => rfl) rfl rfl (b_boxes c.m (h_need_number c) (h_with_items c))
theorem h_boxes (c : Ct P w K mg base) : Has P w K mg base "boxes" 1 3 (spD K gm_boxes) := k_boxes c
theorem sc_need_ranges : FnScope ["ranges", "index", "item"] ["ranges"] (defScope (topS 79)) := ⟨rfl, rfl, rfl, by decide +kernel, rfl, by decide +kernel, by decide +kernel⟩
theorem b_need_ranges (m : Mg mg) (h_are_integers : Has P w K mg base "are_integers" 2 2 (spD K gm_are_integers)) : BodyOk P w K mg base ["ranges", "index", "item"] "need_ranges" (topS 79) 2 [] s_need_ranges := fun f cdv A outer sh H hr => by
  have nd := sc_need_ranges.nd
  exact (scons (sif (PW.pt (dor (dnot (dT (disi (T := "list") (by decide) (by rfl) m.b_isinstance (by rfl) m.b_list (by decide +kernel) (db (dv (pv 0)))))) (dor1 (dnot (dcht o_B o_B op_le op_le dint (dB1 o_len call_len (by rfl) m.b_len (by decide +kernel) (db (dv (pv 0)))) (db (dglobI (by rfl) m.c_MOST_RANGES))))))) (sone sno) snil)
  (sone (sfor (vs := [1, 2]) rfl (ienum (by rfl) m.b_enumerate (acons (dv (pv 0)) anil)) (pg_tup rfl (pgs_cons (pg_name (i := 1) nd rfl (by first | exact Or.inl rfl | exact Or.inr rfl)) (pgs_cons (pg_name (i := 2) nd rfl (by first | exact Or.inl rfl | exact Or.inr rfl)) pgs_nil))) (gtup (gcons (gname (by decide)) (gcons (gname (by decide)) gnil))) (sone (sif (PW.pt (dor (dnot (dT (dcall h_are_integers hr (by rfl) (acons (dv (pv 2)) (acons dint anil)) ))) (dor1 (dct o_B op_gt (dix (dv (pv 2)) (db dint) (fun _ _ => rfl)) (db (dix (dv (pv 2)) (db dint) (fun _ _ => rfl))) (nomark _))))) (sone sno) snil)))))
theorem k_need_ranges (c : Ct P w K mg base) : Has P w K mg base "need_ranges" 1 3 (spD K g_need_ranges) := by
  obtain ⟨f, fd, F, gm⟩ := c.f_need_ranges
  exact hasD 1 2 F sc_need_ranges gm (F.bindsN fun _ _ _ _ _ _ us hl => match us, hl with | [_], _ => rfl) rfl rfl (b_need_ranges c.m (h_are_integers c))
theorem h_need_ranges (c : Ct P w K mg base) : Has P w K mg base "need_ranges" 1 3 (spD K gm_need_ranges) := k_need_ranges c
theorem sc_crowd_in : FnScope ["ranges", "ends", "here", "most", "place", "at", "sort", "low", "high"] ["ranges"] (defScope (topS 80)) := ⟨rfl, rfl, rfl, by decide +kernel, rfl, by decide +kernel, by decide +kernel⟩
theorem b_crowd_in (m : Mg mg)  : BodyOk P w K mg base ["ranges", "ends", "here", "most", "place", "at", "sort", "low", "high"] "crowd_in" (topS 80) 0 [] s_crowd_in := fun f cdv A outer sh H hr => by
  have nd := sc_crowd_in.nd
  exact (scons (sset1 (ps_set (i := 1) nd rfl (by first | exact Or.inl rfl | exact Or.inr rfl) (dL (dB1N o_sort (cr_srt hr.units) (by rfl) m.b_sorted (by decide +kernel) (db (d2 o_add op_addX (dL (dlc rfl nd (iseq (dv (pv 0))) (blkOk_by (own := [("low", 7), ("high", 8)]) (by kernel_rfl)) (fun _ _ _ _ _ => (pg_tup rfl (pgs_cons (pg_name (i := 7) nd rfl (by first | exact Or.inl rfl | exact Or.inr rfl)) (pgs_cons (pg_name (i := 8) nd rfl (by first | exact Or.inl rfl | exact Or.inr rfl)) pgs_nil)))) (gtup (gcons (gname (by decide)) (gcons (gname (by decide)) gnil))) (fun _ _ _ _ _ => pts_nil) (fun _ _ _ h => w_yes h) (fun _ _ _ _ _ => (dtup (acons (dv (pv 7)) (acons dint anil)))))) (db (dL (dlc rfl nd (iseq (dv (pv 0))) (blkOk_by (own := [("low", 7), ("high", 8)]) (by kernel_rfl)) (fun _ _ _ _ _ => (pg_tup rfl (pgs_cons (pg_name (i := 7) nd rfl (by first | exact Or.inl rfl | exact Or.inr rfl)) (pgs_cons (pg_name (i := 8) nd rfl (by first | exact Or.inl rfl | exact Or.inr rfl)) pgs_nil)))) (gtup (gcons (gname (by decide)) (gcons (gname (by decide)) gnil))) (fun _ _ _ _ _ => pts_nil) (fun _ _ _ h => w_yes h) (fun _ _ _ _ _ => (dtup (acons (dv (pv 8)) (acons dint anil)))))))))))))
  (scons (spart (is := [2, 3, 4]) (its := [(Itm.e (ep (.int 0))), (Itm.e (ep (.int 0))), (Itm.e (ep .none))]) (by decide) rfl (ps_asg (pe_tup (pa_cons dint (pa_cons dint (pa_cons dnone pa_nil)))) (pg_tup rfl (pgs_cons (pg_name (i := 2) nd rfl (by first | exact Or.inl rfl | exact Or.inr rfl)) (pgs_cons (pg_name (i := 3) nd rfl (by first | exact Or.inl rfl | exact Or.inr rfl)) (pgs_cons (pg_name (i := 4) nd rfl (by first | exact Or.inl rfl | exact Or.inr rfl)) pgs_nil))))))
  (scons (sfor (vs := [5, 6]) rfl (iseq (dv (pv 1))) (pg_tup rfl (pgs_cons (pg_name (i := 5) nd rfl (by first | exact Or.inl rfl | exact Or.inr rfl)) (pgs_cons (pg_name (i := 6) nd rfl (by first | exact Or.inl rfl | exact Or.inr rfl)) pgs_nil))) (gtup (gcons (gname (by decide)) (gcons (gname (by decide)) gnil))) (scons (sset1 (ps_set (i := 2) nd rfl (by first | exact Or.inl rfl | exact Or.inr rfl) (d2 o_sub op_subX (d2 o_add op_addX (dv (pv 2)) (db dint)) (db (d2 o_mul op_mulX dint (db (dv (pv 6))))))))
  (sone (sif (dct o_B op_gt (dv (pv 2)) (db (dv (pv 3))) (nomark _)) (sone (spar2 (i := 3) (j := 4) (ia := (Itm.e (eV 2))) (ib := (Itm.e (eV 5))) rfl nd rfl rfl (by decide) rfl rfl (by decide) (dv (pv 2)) (dv (pv 5)) (by rfl))) snil))))
  (sone (sret (dtup (acons (dv (pv 3)) (acons (dv (pv 4)) anil))))))))
theorem k_crowd_in (c : Ct P w K mg base) : Has P w K mg base "crowd_in" 1 1 (spD K g_crowd_in) := by
  obtain ⟨f, fd, F, gm⟩ := c.f_crowd_in
  exact hasD 1 8 F sc_crowd_in gm (F.bindsN fun _ _ _ _ _ _ us hl => match us, hl with | [_], _ => rfl) rfl rfl (b_crowd_in c.m )
theorem h_crowd_in (c : Ct P w K mg base) : Has P w K mg base "crowd_in" 1 1 (spD K gm_crowd_in) := k_crowd_in c
theorem sc_pairs_by : FnScope ["number", "depth"] ["number", "depth"] (defScope (topS 81)) := ⟨rfl, rfl, rfl, by decide +kernel, rfl, by decide +kernel, by decide +kernel⟩
theorem b_pairs_by (m : Mg mg)  : BodyOk P w K mg base ["number", "depth"] "pairs_by" (topS 81) 0 [] s_pairs_by := fun f cdv A outer sh H hr => by
  have nd := sc_pairs_by.nd
  exact (scons (sset1 (ps_set (i := 1) nd rfl (by first | exact Or.inl rfl | exact Or.inr rfl) (dB2 o_min2 (call_min2 rfl) (by rfl) m.b_min (by decide +kernel) (dv (pv 0)) (db (dv (pv 1))))))
  (sone (sret (d2 o_add op_addX (d2 o_fdiv op_fdivX (d2 o_mul op_mulX (dv (pv 1)) (db (d2 o_sub op_subX (dv (pv 1)) (db dint)))) (db dint)) (db (d2 o_mul op_mulX (d2 o_sub op_subX (dv (pv 0)) (db (dv (pv 1)))) (db (d2 o_sub op_subX (dv (pv 1)) (db dint)))))))))
theorem k_pairs_by (c : Ct P w K mg base) : Has P w K mg base "pairs_by" 2 1 (spD K g_pairs_by) := by
  obtain ⟨f, fd, F, gm⟩ := c.f_pairs_by
  exact hasD 2 0 F sc_pairs_by gm (F.bindsN fun _ _ _ _ _ _ us hl => match us, hl with | [_, _], _ => rfl) rfl rfl (b_pairs_by c.m )
theorem h_pairs_by (c : Ct P w K mg base) : Has P w K mg base "pairs_by" 2 1 (spD K gm_pairs_by) := k_pairs_by c
theorem sc_by_ends : FnScope ["ranges", "high", "index", "item"] ["ranges"] (defScope (topS 82)) := ⟨rfl, rfl, rfl, by decide +kernel, rfl, by decide +kernel, by decide +kernel⟩
theorem b_by_ends (m : Mg mg)  : BodyOk P w K mg base ["ranges", "high", "index", "item"] "by_ends" (topS 82) 0 [] s_by_ends := fun f cdv A outer sh H hr => by
  have nd := sc_by_ends.nd
  exact (sone (sret (dL (dlc rfl nd (iseq (dL (dB1N o_sort (cr_srt hr.units) (by rfl) m.b_sorted (by decide +kernel) (db (dL (dlc rfl nd (ienum (by rfl) m.b_enumerate (acons (dv (pv 0)) anil)) (blkOk_by (own := [("index", 2), ("item", 3)]) (by kernel_rfl)) (fun _ _ _ _ _ => (pg_tup rfl (pgs_cons (pg_name (i := 2) nd rfl (by first | exact Or.inl rfl | exact Or.inr rfl)) (pgs_cons (pg_name (i := 3) nd rfl (by first | exact Or.inl rfl | exact Or.inr rfl)) pgs_nil)))) (gtup (gcons (gname (by decide)) (gcons (gname (by decide)) gnil))) (fun _ _ _ _ _ => pts_nil) (fun _ _ _ h => w_yes h) (fun _ _ _ _ _ => (dtup (acons (dix (dv (pv 3)) (db dint) (fun _ _ => rfl)) (acons (dv (pv 2)) anil)))))))))) (blkOk_by (own := [("high", 1), ("index", 2)]) (by kernel_rfl)) (fun _ _ _ _ _ => (pg_tup rfl (pgs_cons (pg_name (i := 1) nd rfl (by first | exact Or.inl rfl | exact Or.inr rfl)) (pgs_cons (pg_name (i := 2) nd rfl (by first | exact Or.inl rfl | exact Or.inr rfl)) pgs_nil)))) (gtup (gcons (gname (by decide)) (gcons (gname (by decide)) gnil))) (fun _ _ _ _ _ => pts_nil) (fun _ _ _ h => w_yes h) (fun _ _ _ _ _ => (dv (pv 2)))))))
theorem k_by_ends (c : Ct P w K mg base) : Has P w K mg base "by_ends" 1 1 (spD K g_by_ends) := by
  obtain ⟨f, fd, F, gm⟩ := c.f_by_ends
  exact hasD 1 3 F sc_by_ends gm (F.bindsN fun _ _ _ _ _ _ us hl => match us, hl with | [_], _ => rfl) rfl rfl (b_by_ends c.m )
theorem h_by_ends (c : Ct P w K mg base) : Has P w K mg base "by_ends" 1 1 (spD K gm_by_ends) := k_by_ends c
theorem sc_apart_in : FnScope ["ranges", "found", "index"] ["ranges"] (defScope (topS 83)) := ⟨rfl, rfl, rfl, by decide +kernel, rfl, by decide +kernel, by decide +kernel⟩
theorem b_apart_in (m : Mg mg) (h_by_ends : Has P w K mg base "by_ends" 1 1 (spD K gm_by_ends)) : BodyOk P w K mg base ["ranges", "found", "index"] "apart_in" (topS 83) 1 [] s_apart_in := fun f cdv A outer sh H hr => by
  have nd := sc_apart_in.nd
  exact (scons (ssetN1 (by decide) (ps_set (i := 1) nd rfl (by first | exact Or.inl rfl | exact Or.inr rfl) (dlst anil)))
  (scons (sfor (vs := [2]) rfl (iseq (dcall h_by_ends hr (by rfl) (acons (dv (pv 0)) anil) )) (pg_name (i := 2) nd rfl (by first | exact Or.inl rfl | exact Or.inr rfl)) (gname (by decide)) (sone (sif (PW.pt (dor (dctL o_eq (op_eqD hr.units) (pv 1) (db (dL (dlst anil))) (nomark _)) (dor1 (dct o_lt (op_ltX hr.units0) (dix (dix (dv (pv 0)) (db (dixL (pv 1) (db (dneg (db dint))) (fun _ _ => rfl))) (fun _ _ => rfl)) (db dint) (fun _ _ => rfl)) (db (dix (dix (dv (pv 0)) (db (dv (pv 2))) (fun _ _ => rfl)) (db dint) (fun _ _ => rfl))) (nomark _))))) (sone (sexpr (dapp (pv 1) (dv (pv 2))))) snil)))
  (sone (sfz [1] (sret (dv (pv 1)))))))
theorem k_apart_in (c : Ct P w K mg base) : Has P w K mg base "apart_in" 1 2 (spD K g_apart_in) := by
  obtain ⟨f, fd, F, gm⟩ := c.f_apart_in
  exact hasD 1 2 F sc_apart_in gm (F.bindsN fun _ _ _ _ _ _ us hl => match us, hl with | [_], _ => rfl) rfl rfl (b_apart_in c.m (h_by_ends c))
theorem h_apart_in (c : Ct P w K mg base) : Has P w K mg base "apart_in" 1 2 (spD K gm_apart_in) := k_apart_in c
theorem sc_roomed : FnScope ["ranges", "rooms", "ends", "found", "index", "low", "high", "fit", "end"] ["ranges", "rooms"] (defScope (topS 84)) := ⟨rfl, rfl, rfl, by decide +kernel, rfl, by decide +kernel, by decide +kernel⟩
theorem b_roomed (m : Mg mg) (h_by_ends : Has P w K mg base "by_ends" 1 1 (spD K gm_by_ends)) : BodyOk P w K mg base ["ranges", "rooms", "ends", "found", "index", "low", "high", "fit", "end"] "roomed" (topS 84) 1 [] s_roomed := fun f cdv A outer sh H hr => by
  have nd := sc_roomed.nd
  exact (scons (spar2 (i := 2) (j := 3) (ia := (Itm.n (eAs gLs eAn))) (ib := (Itm.e (ep (.int 0)))) rfl nd rfl rfl (by decide) rfl rfl (by decide) (dlst anil) dint (by rfl))
  (scons (sfor (vs := [4]) rfl (iseq (dcall h_by_ends hr (by rfl) (acons (dv (pv 0)) anil) )) (pg_name (i := 4) nd rfl (by first | exact Or.inl rfl | exact Or.inr rfl)) (gname (by decide)) (scons (stg (vs := [5, 6]) (gtup (gcons (gname (by decide)) (gcons (gname (by decide)) gnil))) (ps_asg (dix (dv (pv 0)) (db (dv (pv 4))) (fun _ _ => rfl)) (pg_tup rfl (pgs_cons (pg_name (i := 5) nd rfl (by first | exact Or.inl rfl | exact Or.inr rfl)) (pgs_cons (pg_name (i := 6) nd rfl (by first | exact Or.inl rfl | exact Or.inr rfl)) pgs_nil)))) (fun _ _ _ h => h))
  (scons (sset (ps_setLc (i := 7) rfl nd rfl rfl (sw_true rfl rfl rfl (by decide +kernel)) (pi_list (pv 2)) (blkOk_by (own := [("end", 8)]) (by kernel_rfl)) (fun _ _ _ _ _ => (pg_name (i := 8) nd rfl (by first | exact Or.inl rfl | exact Or.inr rfl))) (fun _ _ _ _ _ => (pts_one (dct o_lt (op_ltX hr.units0) (dv (pv 8)) (db (dv (pv 5))) (nomark _)))) (fun _ _ _ _ _ => (dv (pv 8)))) (fun _ _ _ h => w_lcM (gname (by decide)) (fun _ _ _ h => h) (w_L h)))
  (scons (sif (dct o_ne (op_neD hr.units) (dv (pv 7)) (db (dL (dlst anil))) (nomark _)) (sone (sexpr (drem rfl (pv 2) (dB1 o_max (cr_max rfl) (by rfl) m.b_max (by decide +kernel) (db (dv (pv 7))))))) snil)
  (sone (sif (PW.pt (dor (dct o_ne (op_neD hr.units) (dv (pv 7)) (db (dL (dlst anil))) (nomark _)) (dor1 (dct o_lt (op_ltX hr.units0) (dB1 o_len call_len (by rfl) m.b_len (by decide +kernel) (dmb (pv 2))) (db (dv (pv 1))) (nomark _))))) (scons (sexpr (dapp (pv 2) (dv (pv 6))))
  (sone (saug (ps_aug (i := 3) nd rfl (by first | exact Or.inl rfl | exact Or.inr rfl) dint ip_add)))) snil))))))
  (sone (sret (dv (pv 3))))))
theorem k_roomed (c : Ct P w K mg base) : Has P w K mg base "roomed" 2 2 (spD K g_roomed) := by
  obtain ⟨f, fd, F, gm⟩ := c.f_roomed
  exact hasD 2 7 F sc_roomed gm (F.bindsN fun _ _ _ _ _ _ us hl => match us, hl with | [_, _], _ => rfl) rfl rfl (b_roomed c.m (h_by_ends c))
theorem h_roomed (c : Ct P w K mg base) : Has P w K mg base "roomed" 2 2 (spD K gm_roomed) := k_roomed c
theorem sc_depth_of : FnScope ["ranges"] ["ranges"] (defScope (topS 85)) := ⟨rfl, rfl, rfl, by decide +kernel, rfl, by decide +kernel, by decide +kernel⟩
theorem b_depth_of (m : Mg mg) (h_need_ranges : Has P w K mg base "need_ranges" 1 3 (spD K gm_need_ranges)) (h_crowd_in : Has P w K mg base "crowd_in" 1 1 (spD K gm_crowd_in)) : BodyOk P w K mg base ["ranges"] "depth_of" (topS 85) 3 [] s_depth_of := fun f cdv A outer sh H hr => by
  have nd := sc_depth_of.nd
  exact (scons (sexpr (dcall h_need_ranges hr (by rfl) (acons (dv (pv 0)) anil) ))
  (sone (sret (dix (dcall h_crowd_in hr (by rfl) (acons (dv (pv 0)) anil) ) (db dint) (fun _ _ => rfl)))))
theorem k_depth_of (c : Ct P w K mg base) : Has P w K mg base "depth_of" 1 4 (spD K g_depth_of) := by
  obtain ⟨f, fd, F, gm⟩ := c.f_depth_of
  exact hasD 1 0 F sc_depth_of gm (F.bindsN fun _ _ _ _ _ _ us hl => match us, hl with | [_], _ => rfl) rfl rfl (b_depth_of c.m (h_need_ranges c) (h_crowd_in c))
theorem h_depth_of (c : Ct P w K mg base) : Has P w K mg base "depth_of" 1 4 (spD K gm_depth_of) := k_depth_of c
theorem sc_meeting_pairs : FnScope ["ranges", "found", "index", "low", "high", "other"] ["ranges"] (defScope (topS 86)) := ⟨rfl, rfl, rfl, by decide +kernel, rfl, by decide +kernel, by decide +kernel⟩
theorem b_meeting_pairs (m : Mg mg) (h_need_ranges : Has P w K mg base "need_ranges" 1 3 (spD K gm_need_ranges)) : BodyOk P w K mg base ["ranges", "found", "index", "low", "high", "other"] "meeting_pairs" (topS 86) 3 [] s_meeting_pairs := fun f cdv A outer sh H hr => by
  have nd := sc_meeting_pairs.nd
  exact (scons (sexpr (dcall h_need_ranges hr (by rfl) (acons (dv (pv 0)) anil) ))
  (scons (sset1 (ps_set (i := 1) nd rfl (by first | exact Or.inl rfl | exact Or.inr rfl) dint))
  (scons (sfor (vs := [2, 3, 4]) rfl (ienum (by rfl) m.b_enumerate (acons (dv (pv 0)) anil)) (pg_tup rfl (pgs_cons (pg_name (i := 2) nd rfl (by first | exact Or.inl rfl | exact Or.inr rfl)) (pgs_cons (pg_tup rfl (pgs_cons (pg_name (i := 3) nd rfl (by first | exact Or.inl rfl | exact Or.inr rfl)) (pgs_cons (pg_name (i := 4) nd rfl (by first | exact Or.inl rfl | exact Or.inr rfl)) pgs_nil))) pgs_nil))) (gtup (gcons (gname (by decide)) (gcons (gtup (gcons (gname (by decide)) (gcons (gname (by decide)) gnil))) gnil))) (sone (saug (ps_aug (i := 1) nd rfl (by first | exact Or.inl rfl | exact Or.inr rfl) (dB1 o_len call_len (by rfl) m.b_len (by decide +kernel) (db (dL (dlc rfl nd (iseq (dsl (dv (pv 0)) onone (osome (dv (pv 2))))) (blkOk_by (own := [("other", 5)]) (by kernel_rfl)) (fun _ _ _ _ _ => (pg_name (i := 5) nd rfl (by first | exact Or.inl rfl | exact Or.inr rfl))) (gname (by decide)) (fun _ _ _ _ _ => (pts_one (PW.pt (dand (dct o_B op_le (dix (dv (pv 5)) (db dint) (fun _ _ => rfl)) (db (dv (pv 4))) (nomark _)) (dand1 (dct o_B op_le (dv (pv 3)) (db (dix (dv (pv 5)) (db dint) (fun _ _ => rfl))) (nomark _))))))) (fun _ _ _ h => h) (fun _ _ _ _ _ => (dv (pv 5))))))) ip_add))))
  (sone (sret (dv (pv 1)))))))
theorem k_meeting_pairs (c : Ct P w K mg base) : Has P w K mg base "meeting_pairs" 1 4 (spD K g_meeting_pairs) := by
  obtain ⟨f, fd, F, gm⟩ := c.f_meeting_pairs
  exact hasD 1 5 F sc_meeting_pairs gm (F.bindsN fun _ _ _ _ _ _ us hl => match us, hl with | [_], _ => rfl) rfl rfl (b_meeting_pairs c.m (h_need_ranges c))
theorem h_meeting_pairs (c : Ct P w K mg base) : Has P w K mg base "meeting_pairs" 1 4 (spD K gm_meeting_pairs) := k_meeting_pairs c
theorem sc_forced_depth : FnScope ["number", "pairs", "low", "high", "half"] ["number", "pairs"] (defScope (topS 87)) := ⟨rfl, rfl, rfl, by decide +kernel, rfl, by decide +kernel, by decide +kernel⟩
theorem b_forced_depth (m : Mg mg) (h_need_number : Has P w K mg base "need_number" 3 2 (spD K gm_need_number)) (h_pairs_by : Has P w K mg base "pairs_by" 2 1 (spD K gm_pairs_by)) : BodyOk P w K mg base ["number", "pairs", "low", "high", "half"] "forced_depth" (topS 87) 2 [] s_forced_depth := fun f cdv A outer sh H hr => by
  have nd := sc_forced_depth.nd
  exact (scons (sexpr (dcall h_need_number hr (by rfl) (acons (dv (pv 0)) (acons dint (acons (dglobI (by rfl) m.c_MOST_NUMBER) anil))) ))
  (scons (sexpr (dcall h_need_number hr (by rfl) (acons (dv (pv 1)) (acons dint (acons (d2 o_fdiv op_fdivX (d2 o_mul op_mulX (dv (pv 0)) (db (d2 o_sub op_subX (dv (pv 0)) (db dint)))) (db dint)) anil))) ))
  (scons (spar2 (i := 2) (j := 3) (ia := (Itm.e (ep (.int 1)))) (ib := (Itm.e (eV 0))) rfl nd rfl rfl (by decide) rfl rfl (by decide) dint (dv (pv 0)) (by rfl))
  (scons (swh (fun _ _ h => h) (dct o_lt (op_ltX hr.units0) (dv (pv 2)) (db (dv (pv 3))) (nomark _)) (scons (sset1 (ps_set (i := 4) nd rfl (by first | exact Or.inl rfl | exact Or.inr rfl) (d2 o_fdiv op_fdivX (d2 o_add op_addX (dv (pv 2)) (db (dv (pv 3)))) (db dint))))
  (sone (sif (dct o_lt (op_ltX hr.units0) (dcall h_pairs_by hr (by rfl) (acons (dv (pv 0)) (acons (dv (pv 4)) anil)) ) (db (dv (pv 1))) (nomark _)) (sone (sset1 (ps_set (i := 2) nd rfl (by first | exact Or.inl rfl | exact Or.inr rfl) (d2 o_add op_addX (dv (pv 4)) (db dint))))) (sone (sset1 (ps_set (i := 3) nd rfl (by first | exact Or.inl rfl | exact Or.inr rfl) (dv (pv 4)))))))))
  (sone (sret (dv (pv 2))))))))
theorem k_forced_depth (c : Ct P w K mg base) : Has P w K mg base "forced_depth" 2 3 (spD K g_forced_depth) := by
  obtain ⟨f, fd, F, gm⟩ := c.f_forced_depth
  exact hasD 2 3 F sc_forced_depth gm (F.bindsN fun _ _ _ _ _ _ us hl => match us, hl with | [_, _], _ => rfl) rfl rfl (b_forced_depth c.m (h_need_number c) (h_pairs_by c))
theorem h_forced_depth (c : Ct P w K mg base) : Has P w K mg base "forced_depth" 2 3 (spD K gm_forced_depth) := k_forced_depth c
theorem sc_apart : FnScope ["ranges"] ["ranges"] (defScope (topS 88)) := ⟨rfl, rfl, rfl, by decide +kernel, rfl, by decide +kernel, by decide +kernel⟩
theorem b_apart (m : Mg mg) (h_need_ranges : Has P w K mg base "need_ranges" 1 3 (spD K gm_need_ranges)) (h_apart_in : Has P w K mg base "apart_in" 1 2 (spD K gm_apart_in)) : BodyOk P w K mg base ["ranges"] "apart" (topS 88) 3 [] s_apart := fun f cdv A outer sh H hr => by
  have nd := sc_apart.nd
  exact (scons (sexpr (dcall h_need_ranges hr (by rfl) (acons (dv (pv 0)) anil) ))
  (sone (sret (dL (dB1N o_sort (cr_srt hr.units) (by rfl) m.b_sorted (by decide +kernel) (db (dcall h_apart_in hr (by rfl) (acons (dv (pv 0)) anil) )))))))
theorem k_apart (c : Ct P w K mg base) : Has P w K mg base "apart" 1 4 (spD K g_apart) := by
  obtain ⟨f, fd, F, gm⟩ := c.f_apart
  exact hasD 1 0 F sc_apart gm (F.bindsN fun _ _ _ _ _ _ us hl => match us, hl with | [_], _ => rfl) rfl rfl (b_apart c.m (h_need_ranges c) (h_apart_in c))
theorem h_apart (c : Ct P w K mg base) : Has P w K mg base "apart" 1 4 (spD K gm_apart) := k_apart c
theorem sc_hitting : FnScope ["ranges", "index"] ["ranges"] (defScope (topS 89)) := ⟨rfl, rfl, rfl, by decide +kernel, rfl, by decide +kernel, by decide +kernel⟩
theorem b_hitting (m : Mg mg) (h_need_ranges : Has P w K mg base "need_ranges" 1 3 (spD K gm_need_ranges)) (h_apart_in : Has P w K mg base "apart_in" 1 2 (spD K gm_apart_in)) : BodyOk P w K mg base ["ranges", "index"] "hitting" (topS 89) 3 [] s_hitting := fun f cdv A outer sh H hr => by
  have nd := sc_hitting.nd
  exact (scons (sexpr (dcall h_need_ranges hr (by rfl) (acons (dv (pv 0)) anil) ))
  (sone (sret (dL (dlc rfl nd (iseq (dcall h_apart_in hr (by rfl) (acons (dv (pv 0)) anil) )) (blkOk_by (own := [("index", 1)]) (by kernel_rfl)) (fun _ _ _ _ _ => (pg_name (i := 1) nd rfl (by first | exact Or.inl rfl | exact Or.inr rfl))) (gname (by decide)) (fun _ _ _ _ _ => pts_nil) (fun _ _ _ h => w_yes h) (fun _ _ _ _ _ => (dix (dix (dv (pv 0)) (db (dv (pv 1))) (fun _ _ => rfl)) (db dint) (fun _ _ => rfl))))))))
theorem k_hitting (c : Ct P w K mg base) : Has P w K mg base "hitting" 1 4 (spD K g_hitting) := by
  obtain ⟨f, fd, F, gm⟩ := c.f_hitting
  exact hasD 1 1 F sc_hitting gm (F.bindsN fun _ _ _ _ _ _ us hl => match us, hl with | [_], _ => rfl) rfl rfl (b_hitting c.m (h_need_ranges c) (h_apart_in c))
theorem h_hitting (c : Ct P w K mg base) : Has P w K mg base "hitting" 1 4 (spD K gm_hitting) := k_hitting c
theorem sc_have_meetings : FnScope ["ranges", "size", "number"] ["ranges", "size", "number"] (defScope (topS 90)) := ⟨rfl, rfl, rfl, by decide +kernel, rfl, by decide +kernel, by decide +kernel⟩
theorem b_have_meetings (m : Mg mg) (h_need_ranges : Has P w K mg base "need_ranges" 1 3 (spD K gm_need_ranges)) (h_need_number : Has P w K mg base "need_number" 3 2 (spD K gm_need_number)) (h_roomed : Has P w K mg base "roomed" 2 2 (spD K gm_roomed)) : BodyOk P w K mg base ["ranges", "size", "number"] "have_meetings" (topS 90) 3 [] s_have_meetings := fun f cdv A outer sh H hr => by
  have nd := sc_have_meetings.nd
  exact (scons (sexpr (dcall h_need_ranges hr (by rfl) (acons (dv (pv 0)) anil) ))
  (scons (sexpr (dcall h_need_number hr (by rfl) (acons (dv (pv 1)) (acons dint (acons dnone anil))) ))
  (scons (sexpr (dcall h_need_number hr (by rfl) (acons (dv (pv 2)) (acons dint (acons dnone anil))) ))
  (scons (sif (dct o_B op_gt (dv (pv 2)) (db (dv (pv 1))) (nomark _)) (sone sno) snil)
  (sone (sret (dc o_lt (op_ltX hr.units0) (dcall h_roomed hr (by rfl) (acons (dv (pv 0)) (acons (d2 o_sub op_subX (dv (pv 2)) (db dint)) anil)) ) (db (dv (pv 1))) (nomark _))))))))
theorem k_have_meetings (c : Ct P w K mg base) : Has P w K mg base "have_meetings" 3 4 (spD K g_have_meetings) := by
  obtain ⟨f, fd, F, gm⟩ := c.f_have_meetings
  exact hasD 3 0 F sc_have_meetings gm (F.bindsN fun _ _ _ _ _ _ us hl => match us, hl with | [_, _, _], _ => rfl) rfl rfl (b_have_meetings c.m (h_need_ranges c) (h_need_number c) (h_roomed c))
theorem h_have_meetings (c : Ct P w K mg base) : Has P w K mg base "have_meetings" 3 4 (spD K gm_have_meetings) := k_have_meetings c
theorem sc_fewest_left : FnScope ["ranges"] ["ranges"] (defScope (topS 91)) := ⟨rfl, rfl, rfl, by decide +kernel, rfl, by decide +kernel, by decide +kernel⟩
theorem b_fewest_left (m : Mg mg) (h_need_ranges : Has P w K mg base "need_ranges" 1 3 (spD K gm_need_ranges)) (h_crowd_in : Has P w K mg base "crowd_in" 1 1 (spD K gm_crowd_in)) : BodyOk P w K mg base ["ranges"] "fewest_left" (topS 91) 3 [] s_fewest_left := fun f cdv A outer sh H hr => by
  have nd := sc_fewest_left.nd
  exact (scons (sexpr (dcall h_need_ranges hr (by rfl) (acons (dv (pv 0)) anil) ))
  (sone (sret (d2 o_sub op_subX (dB1 o_len call_len (by rfl) m.b_len (by decide +kernel) (db (dv (pv 0)))) (db (dix (dcall h_crowd_in hr (by rfl) (acons (dv (pv 0)) anil) ) (db dint) (fun _ _ => rfl)))))))
theorem k_fewest_left (c : Ct P w K mg base) : Has P w K mg base "fewest_left" 1 4 (spD K g_fewest_left) := by
  obtain ⟨f, fd, F, gm⟩ := c.f_fewest_left
  exact hasD 1 0 F sc_fewest_left gm (F.bindsN fun _ _ _ _ _ _ us hl => match us, hl with | [_], _ => rfl) rfl rfl (b_fewest_left c.m (h_need_ranges c) (h_crowd_in c))
theorem h_fewest_left (c : Ct P w K mg base) : Has P w K mg base "fewest_left" 1 4 (spD K gm_fewest_left) := k_fewest_left c
theorem sc_law_source : FnScope ["entry", "k", "great"] ["entry", "k"] (defScope (topS 93)) := ⟨rfl, rfl, rfl, by decide +kernel, rfl, by decide +kernel, by decide +kernel⟩
theorem b_law_source (m : Mg mg)  : BodyOk P w K mg base ["entry", "k", "great"] "_law_source" (topS 93) 0 [] s_law_source := fun f cdv A outer sh H hr => by
  have nd := sc_law_source.nd
  exact (scons (sset1 (ps_set (i := 2) nd rfl (by first | exact Or.inl rfl | exact Or.inr rfl) (dB1 o_abs call_abs (by rfl) m.b_abs (by decide +kernel) (db (dv (pv 0))))))
  (sone (sretN (dlst (acons (dB2 o_max2 (call_max2 rfl) (by rfl) m.b_max (by decide +kernel) dint (db (d2 o_sub op_subX (dv (pv 2)) (db (d2 o_pow op_powX dint (db dint)))))) (acons (d2 o_add op_addX (d2 o_add op_addX (d2 o_mul op_mulX (d2 o_mod op_modN (dT1 o_int call_int1 (by rfl) m.b_int (by decide +kernel) (db (dv (pv 2)))) (db (d2 o_add op_addX (d2 o_pow op_powX dint (db dint)) (db dint)))) (db dint)) (db (d2 o_mul op_mulX dint (db (dv (pv 1)))))) (db (dT1 o_int call_int1 (by rfl) m.b_int (by decide +kernel) (db (dc o_lt (op_ltX hr.units0) (dv (pv 0)) (db dint) (nomark _)))))) (acons dint anil)))))))
theorem k_law_source (c : Ct P w K mg base) : Has P w K mg base "_law_source" 2 1 (spN K g_law_source) := by
  obtain ⟨f, fd, F, gm⟩ := c.f_law_source
  exact hasN 2 1 F sc_law_source gm (F.bindsN fun _ _ _ _ _ _ us hl => match us, hl with | [_, _], _ => rfl) rfl rfl (b_law_source c.m )
theorem h_law_source (c : Ct P w K mg base) : Has P w K mg base "_law_source" 2 1 (spN K gm_law_source) := k_law_source c
theorem sc_law_draw : FnScope ["source", "count", "digit", "mixed_here"] ["source", "count"] (defScope (topS 94)) := ⟨rfl, rfl, rfl, by decide +kernel, rfl, by decide +kernel, by decide +kernel⟩
theorem b_law_draw (m : Mg mg)  : BodyOk P w K mg base ["source", "count", "digit", "mixed_here"] "_law_draw" (topS 94) 0 [0] s_law_draw := fun f cdv A outer sh H hr => by
  have nd := sc_law_draw.nd
  exact (scons (sif (dct o_B op_gt (dixL (pv 0) (db dint) (fun _ _ => rfl)) (db dint) (nomark _)) (scons (sset1 (ps_set (i := 2) nd rfl (by first | exact Or.inl rfl | exact Or.inr rfl) (d2 o_mod op_modN (dT1 o_int call_int1 (by rfl) m.b_int (by decide +kernel) (db (dixL (pv 0) (db dint) (fun _ _ => rfl)))) (db (dv (pv 1))))))
  (scons (sst (ps_asg (d2 o_fdiv op_fdivX (dixL (pv 0) (db dint) (fun _ _ => rfl)) (db (dv (pv 1)))) (pg_sub (pv 0) dint set_list)))
  (sone (sret (dv (pv 2)))))) snil)
  (scons (sst (ps_asg (d2 o_add op_addX (dixL (pv 0) (db dint) (fun _ _ => rfl)) (db dint)) (pg_sub (pv 0) dint set_list)))
  (scons (sset1 (ps_set (i := 3) nd rfl (by first | exact Or.inl rfl | exact Or.inr rfl) (d2 o_mod op_modN (dT1 o_int call_int1 (by rfl) m.b_int (by decide +kernel) (db (d2 o_pow op_powX (d2 o_add op_addX (dixL (pv 0) (db dint) (fun _ _ => rfl)) (db (d2 o_mul op_mulX dint (db (dixL (pv 0) (db dint) (fun _ _ => rfl)))))) (db dint)))) (db (d2 o_add op_addX (d2 o_pow op_powX dint (db dint)) (db dint))))))
  (scons (sset1 (ps_set (i := 3) nd rfl (by first | exact Or.inl rfl | exact Or.inr rfl) (d2 o_mod op_modN (dT1 o_int call_int1 (by rfl) m.b_int (by decide +kernel) (db (d2 o_pow op_powX (d2 o_add op_addX (d2 o_mul op_mulX (dv (pv 3)) (db (dixL (pv 0) (db dint) (fun _ _ => rfl)))) (db dint)) (db dint)))) (db (d2 o_add op_addX (d2 o_pow op_powX dint (db dint)) (db dint))))))
  (sone (sret (d2 o_mod op_modN (dT1 o_int call_int1 (by rfl) m.b_int (by decide +kernel) (db (d2 o_fdiv op_fdivX (dv (pv 3)) (db dint)))) (db (dv (pv 1))))))))))
theorem k_law_draw (c : Ct P w K mg base) : Has P w K mg base "_law_draw" 2 1 (spM K g_law_draw) := by
  obtain ⟨f, fd, F, gm⟩ := c.f_law_draw
  exact hasM 1 2 F sc_law_draw gm (F.bindsN fun _ _ _ _ _ _ us hl => match us, hl with | [_, _], _ => rfl) rfl rfl (b_law_draw c.m )
theorem h_law_draw (c : Ct P w K mg base) : Has P w K mg base "_law_draw" 2 1 (spM K gm_law_draw) := k_law_draw c
theorem sc_law_spans : FnScope ["source", "many", "wide", "found", "turning", "low", "long", "span", "sort", "one"] ["source", "many", "wide"] (defScope (topS 95)) := ⟨rfl, rfl, rfl, by decide +kernel, rfl, by decide +kernel, by decide +kernel⟩
theorem b_law_spans (m : Mg mg) (h_law_draw : Has P w K mg base "_law_draw" 2 1 (spM K gm_law_draw)) : BodyOk P w K mg base ["source", "many", "wide", "found", "turning", "low", "long", "span", "sort", "one"] "_law_spans" (topS 95) 1 [0] s_law_spans := fun f cdv A outer sh H hr => by
  have nd := sc_law_spans.nd
  exact (scons (ssetN1 (by decide) (ps_set (i := 3) nd rfl (by first | exact Or.inl rfl | exact Or.inr rfl) (dlst anil)))
  (scons (sfor (vs := [4]) rfl (irange1 (by rfl) m.b_range (acons (dv (pv 1)) anil)) (pg_name (i := 4) nd rfl (by first | exact Or.inl rfl | exact Or.inr rfl)) (gname (by decide)) (scons (sset1 (ps_set (i := 5) nd rfl (by first | exact Or.inl rfl | exact Or.inr rfl) (d2 o_sub op_subX (dcallM h_law_draw hr (by rfl) (pv 0) (acons (d2 o_add op_addX (d2 o_mul op_mulX dint (db (dv (pv 2)))) (db dint)) anil) ) (db (dv (pv 2))))))
  (scons (sset1 (ps_set (i := 6) nd rfl (by first | exact Or.inl rfl | exact Or.inr rfl) (dix (dL (dlst (acons (dcallM h_law_draw hr (by rfl) (pv 0) (acons (d2 o_add op_addX (d2 o_mul op_mulX dint (db (dv (pv 2)))) (db dint)) anil) ) (acons (dcallM h_law_draw hr (by rfl) (pv 0) (acons dint anil) ) (acons dint (acons (dv (pv 2)) anil)))))) (db (dcallM h_law_draw hr (by rfl) (pv 0) (acons dint anil) )) (fun _ _ => rfl))))
  (scons (spar2 (i := 7) (j := 8) (ia := (Itm.e (eAs gTp (eAc (eV 5) (eAc (e2 gAdd (eV 5) (eV 6)) eAn))))) (ib := (Itm.e (eCM gm_law_draw 0 (eAc (ep (.int 6)) eAn)))) rfl nd rfl rfl (by decide) rfl rfl (by decide) (dtup (acons (dv (pv 5)) (acons (d2 o_add op_addX (dv (pv 5)) (db (dv (pv 6)))) anil))) (dcallM h_law_draw hr (by rfl) (pv 0) (acons dint anil) ) (by rfl))
  (scons (sif (PW.pt (dand (dctL o_ne (op_neD hr.units) (pv 3) (db (dL (dlst anil))) (nomark _)) (dand1 (dct o_B op_gt (dv (pv 8)) (db dint) (nomark _))))) (scons (sset1 (ps_set (i := 9) nd rfl (by first | exact Or.inl rfl | exact Or.inr rfl) (dixL (pv 3) (db (dcallM h_law_draw hr (by rfl) (pv 0) (acons (dB1 o_len call_len (by rfl) m.b_len (by decide +kernel) (dmb (pv 3))) anil) )) (fun _ _ => rfl))))
  (sone (sset1 (ps_set (i := 7) nd rfl (by first | exact Or.inl rfl | exact Or.inr rfl) (dix (dL (dlst (acons (dv (pv 9)) (acons (dtup (acons (dix (dv (pv 9)) (db dint) (fun _ _ => rfl)) (acons (d2 o_add op_addX (dix (dv (pv 9)) (db dint) (fun _ _ => rfl)) (db (dv (pv 6)))) anil))) (acons (dtup (acons (d2 o_sub op_subX (dix (dv (pv 9)) (db dint) (fun _ _ => rfl)) (db (dv (pv 6)))) (acons (dix (dv (pv 9)) (db dint) (fun _ _ => rfl)) anil))) anil))))) (db (d2 o_sub op_subX (dv (pv 8)) (db dint))) (fun _ _ => rfl)))))) snil)
  (sone (sexpr (dapp (pv 3) (dv (pv 7))))))))))
  (sone (sfz [3] (sret (dv (pv 3)))))))
theorem k_law_spans (c : Ct P w K mg base) : Has P w K mg base "_law_spans" 3 2 (spM K g_law_spans) := by
  obtain ⟨f, fd, F, gm⟩ := c.f_law_spans
  exact hasM 2 7 F sc_law_spans gm (F.bindsN fun _ _ _ _ _ _ us hl => match us, hl with | [_, _, _], _ => rfl) rfl rfl (b_law_spans c.m (h_law_draw c))
theorem h_law_spans (c : Ct P w K mg base) : Has P w K mg base "_law_spans" 3 2 (spM K gm_law_spans) := k_law_spans c
theorem sc_law_parties_right : FnScope ["spans", "lot", "many", "guests_here", "due", "one", "two", "spot", "low", "high", "some", "span"] ["spans"] (defScope (topS 96)) := ⟨rfl, rfl, rfl, by decide +kernel, rfl, by decide +kernel, by decide +kernel⟩
theorem b_law_parties_right (m : Mg mg) (h_boxes : Has P w K mg base "boxes" 1 3 (spD K gm_boxes)) (h_depth_of : Has P w K mg base "depth_of" 1 4 (spD K gm_depth_of)) (h_all_meet : Has P w K mg base "all_meet" 2 15 (spD K gm_all_meet)) (h_fewest_left : Has P w K mg base "fewest_left" 1 4 (spD K gm_fewest_left)) (h_fewest_parties_out : Has P w K mg base "fewest_parties_out" 2 17 (spD K gm_fewest_parties_out)) (h_crowds : Has P w K mg base "crowds" 2 17 (spD K gm_crowds)) (h_meeting_pairs : Has P w K mg base "meeting_pairs" 1 4 (spD K gm_meeting_pairs)) (h_party_clashes : Has P w K mg base "party_clashes" 2 16 (spD K gm_party_clashes)) (h_meeting_place : Has P w K mg base "meeting_place" 2 17 (spD K gm_meeting_place)) (h_apart : Has P w K mg base "apart" 1 4 (spD K gm_apart)) (h_hitting : Has P w K mg base "hitting" 1 4 (spD K gm_hitting)) (h_combined : Has P w K mg base "combined" 2 19 (spD K gm_combined)) : BodyOk P w K mg base ["spans", "lot", "many", "guests_here", "due", "one", "two", "spot", "low", "high", "some", "span"] "_law_parties_right" (topS 96) 19 [] s_law_parties_right := fun f cdv A outer sh H hr => by
  have nd := sc_law_parties_right.nd
  exact (scons (spar2 (i := 1) (j := 2) (ia := (Itm.e (eAs gm_boxes (eAc (ep (.int 1)) eAn)))) (ib := (Itm.e (e1 gLen (eV 0)))) rfl nd rfl rfl (by decide) rfl rfl (by decide) (dcall h_boxes hr (by rfl) (acons dint anil) ) (dB1 o_len call_len (by rfl) m.b_len (by decide +kernel) (db (dv (pv 0)))) (by rfl))
  (scons (sset (ps_setLc (i := 3) rfl nd rfl rfl (sw_true rfl rfl rfl (by decide +kernel)) (iseq (dv (pv 0))) (blkOk_by (own := [("low", 8), ("high", 9)]) (by kernel_rfl)) (fun _ _ _ _ _ => (pg_tup rfl (pgs_cons (pg_name (i := 8) nd rfl (by first | exact Or.inl rfl | exact Or.inr rfl)) (pgs_cons (pg_name (i := 9) nd rfl (by first | exact Or.inl rfl | exact Or.inr rfl)) pgs_nil)))) (fun _ _ _ _ _ => pts_nil) (fun _ _ _ _ _ => (dL (dlst (acons (dtup (acons dint (acons (dtup (acons (d2 o_sub op_subX dint (db (dv (pv 8)))) (acons dint anil))) anil))) (acons (dtup (acons dint (acons (dtup (acons (dv (pv 9)) (acons dint anil))) anil))) anil)))))) (fun _ _ _ h => w_lc (gtup (gcons (gname (by decide)) (gcons (gname (by decide)) gnil))) (fun _ _ _ h => w_yes h) (w_L h)))
  (scons (sif (dct o_ne (op_neD hr.units) (dcall h_all_meet hr (by rfl) (acons (dv (pv 1)) (acons (dv (pv 3)) anil)) ) (db (dc o_eq (op_eqD hr.units) (dcall h_depth_of hr (by rfl) (acons (dv (pv 0)) anil) ) (db (dv (pv 2))) (nomark _))) (nomark _)) (sone (sret dbl)) snil)
  (scons (sif (dct o_ne (op_neD hr.units) (dcall h_fewest_parties_out hr (by rfl) (acons (dv (pv 1)) (acons (dv (pv 3)) anil)) ) (db (dcall h_fewest_left hr (by rfl) (acons (dv (pv 0)) anil) )) (nomark _)) (sone (sret dbl)) snil)
  (scons (sif (dct o_ne (op_neD hr.units) (dL (dlc rfl nd (iseq (dcall h_crowds hr (by rfl) (acons (dv (pv 1)) (acons (dv (pv 3)) anil)) )) (blkOk_by (own := [("some", 10)]) (by kernel_rfl)) (fun _ _ _ _ _ => (pg_name (i := 10) nd rfl (by first | exact Or.inl rfl | exact Or.inr rfl))) (gname (by decide)) (fun _ _ _ _ _ => (pts_one (dct o_ne (op_neD hr.units) (dB1 o_len call_len (by rfl) m.b_len (by decide +kernel) (db (dv (pv 10)))) (db (dcall h_depth_of hr (by rfl) (acons (dv (pv 0)) anil) )) (nomark _)))) (fun _ _ _ h => h) (fun _ _ _ _ _ => dint))) (db (dL (dlst anil))) (nomark _)) (sone (sret dbl)) snil)
  (scons (ssetN1 (by decide) (ps_set (i := 4) nd rfl (by first | exact Or.inl rfl | exact Or.inr rfl) (dlst anil)))
  (scons (sfor (vs := [5]) rfl (irange1 (by rfl) m.b_range (acons (dv (pv 2)) anil)) (pg_name (i := 5) nd rfl (by first | exact Or.inl rfl | exact Or.inr rfl)) (gname (by decide)) (sone (sfor (vs := [6]) rfl (irange2 (by rfl) m.b_range (acons (d2 o_add op_addX (dv (pv 5)) (db dint)) (acons (dv (pv 2)) anil))) (pg_name (i := 6) nd rfl (by first | exact Or.inl rfl | exact Or.inr rfl)) (gname (by decide)) (sone (sif (dct o_eq (op_eqD hr.units) (dcall h_depth_of hr (by rfl) (acons (dL (dlst (acons (dix (dv (pv 0)) (db (dv (pv 5))) (fun _ _ => rfl)) (acons (dix (dv (pv 0)) (db (dv (pv 6))) (fun _ _ => rfl)) anil)))) anil) ) (db dint) (nomark _)) (sone (sexpr (dapp (pv 4) (dL (dlst (acons (dv (pv 5)) (acons (dv (pv 6)) anil))))))) snil)))))
  (scons (sif (PW.pt (dor (dct o_ne (op_neD hr.units) (dcall h_party_clashes hr (by rfl) (acons (dv (pv 1)) (acons (dv (pv 3)) anil)) ) (dmb (pv 4)) (nomark _)) (dor1 (dct o_ne (op_neD hr.units) (dcall h_meeting_pairs hr (by rfl) (acons (dv (pv 0)) anil) ) (db (d2 o_sub op_subX (d2 o_fdiv op_fdivX (d2 o_mul op_mulX (dv (pv 2)) (db (d2 o_sub op_subX (dv (pv 2)) (db dint)))) (db dint)) (db (dB1 o_len call_len (by rfl) m.b_len (by decide +kernel) (dmb (pv 4)))))) (nomark _))))) (sone (sret dbl)) snil)
  (scons (sset1 (ps_set (i := 7) nd rfl (by first | exact Or.inl rfl | exact Or.inr rfl) (dcall h_meeting_place hr (by rfl) (acons (dv (pv 1)) (acons (dv (pv 3)) anil)) )))
  (scons (sif (dctL o_ne (op_neD hr.units) (pv 4) (db (dL (dlst anil))) (nomark _)) (sone (sret (dandV (dc o_is op_isN (dv (pv 7)) (db dnone) (nomark _)) (dandV1 (dc o_B op_gt (dB1 o_len call_len (by rfl) m.b_len (by decide +kernel) (db (dcall h_apart hr (by rfl) (acons (dv (pv 0)) anil) ))) (db dint) (nomark _)))))) snil)
  (scons (spar2 (i := 8) (j := 9) (ia := (Itm.e (e1 gMax (eL (eLc [11] (eIs (eV 0)) (bd 11) (ep true) (e2 gIx (eV 11) (ep (.int 0)))))))) (ib := (Itm.e (e1 gMin (eL (eLc [11] (eIs (eV 0)) (bd 11) (ep true) (e2 gIx (eV 11) (ep (.int 1)))))))) rfl nd rfl rfl (by decide) rfl rfl (by decide) (dB1 o_max (cr_max rfl) (by rfl) m.b_max (by decide +kernel) (db (dL (dlc rfl nd (iseq (dv (pv 0))) (blkOk_by (own := [("span", 11)]) (by kernel_rfl)) (fun _ _ _ _ _ => (pg_name (i := 11) nd rfl (by first | exact Or.inl rfl | exact Or.inr rfl))) (gname (by decide)) (fun _ _ _ _ _ => pts_nil) (fun _ _ _ h => w_yes h) (fun _ _ _ _ _ => (dix (dv (pv 11)) (db dint) (fun _ _ => rfl))))))) (dB1 o_min (cr_min rfl) (by rfl) m.b_min (by decide +kernel) (db (dL (dlc rfl nd (iseq (dv (pv 0))) (blkOk_by (own := [("span", 11)]) (by kernel_rfl)) (fun _ _ _ _ _ => (pg_name (i := 11) nd rfl (by first | exact Or.inl rfl | exact Or.inr rfl))) (gname (by decide)) (fun _ _ _ _ _ => pts_nil) (fun _ _ _ h => w_yes h) (fun _ _ _ _ _ => (dix (dv (pv 11)) (db dint) (fun _ _ => rfl))))))) (by rfl))
  (scons (sif (PW.pt (dor (dct o_ne (op_neD hr.units) (dcall h_combined hr (by rfl) (acons (dv (pv 1)) (acons (dv (pv 3)) anil)) ) (db (dL (dlst (acons (dtup (acons (d2 o_sub op_subX dint (db (dv (pv 8)))) (acons dint anil))) (acons (dtup (acons (dv (pv 9)) (acons dint anil))) anil))))) (nomark _)) (dor1 (dct o_ne (op_neD hr.units) (dB1 o_len call_len (by rfl) m.b_len (by decide +kernel) (db (dcall h_hitting hr (by rfl) (acons (dv (pv 0)) anil) ))) (db dint) (nomark _))))) (sone (sret dbl)) snil)
  (sone (sret (dch o_B o_B op_le op_le (d2 o_mul op_mulX (dv (pv 8)) (db (dix (dix (dv (pv 7)) (db dint) (fun _ _ => rfl)) (db dint) (fun _ _ => rfl)))) (dix (dix (dv (pv 7)) (db dint) (fun _ _ => rfl)) (db dint) (fun _ _ => rfl)) (db (d2 o_mul op_mulX (dv (pv 9)) (db (dix (dix (dv (pv 7)) (db dint) (fun _ _ => rfl)) (db dint) (fun _ _ => rfl))))))))))))))))))))
theorem k_law_parties_right (c : Ct P w K mg base) : Has P w K mg base "_law_parties_right" 1 20 (spD K g_law_parties_right) := by
  obtain ⟨f, fd, F, gm⟩ := c.f_law_parties_right
  exact hasD 1 11 F sc_law_parties_right gm (F.bindsN fun _ _ _ _ _ _ us hl => match us, hl with | [_], _ => rfl) rfl rfl (b_law_parties_right c.m (h_boxes c) (h_depth_of c) (h_all_meet c) (h_fewest_left c) (h_fewest_parties_out c) (h_crowds c) (h_meeting_pairs c) (h_party_clashes c) (h_meeting_place c) (h_apart c) (h_hitting c) (h_combined c))
theorem h_law_parties_right (c : Ct P w K mg base) : Has P w K mg base "_law_parties_right" 1 20 (spD K gm_law_parties_right) := k_law_parties_right c
theorem sc_law_long_right : FnScope ["spans", "many", "q", "p"] ["spans"] (defScope (topS 97)) := ⟨rfl, rfl, rfl, by decide +kernel, rfl, by decide +kernel, by decide +kernel⟩
theorem b_law_long_right (m : Mg mg) (h_hitting : Has P w K mg base "hitting" 1 4 (spD K gm_hitting)) (h_apart : Has P w K mg base "apart" 1 4 (spD K gm_apart)) (h_depth_of : Has P w K mg base "depth_of" 1 4 (spD K gm_depth_of)) (h_forced_depth : Has P w K mg base "forced_depth" 2 3 (spD K gm_forced_depth)) (h_meeting_pairs : Has P w K mg base "meeting_pairs" 1 4 (spD K gm_meeting_pairs)) (h_have_meetings : Has P w K mg base "have_meetings" 3 4 (spD K gm_have_meetings)) : BodyOk P w K mg base ["spans", "many", "q", "p"] "_law_long_right" (topS 97) 4 [] s_law_long_right := fun f cdv A outer sh H hr => by
  have nd := sc_law_long_right.nd
  exact (scons (sset1 (ps_set (i := 1) nd rfl (by first | exact Or.inl rfl | exact Or.inr rfl) (dB1 o_len call_len (by rfl) m.b_len (by decide +kernel) (db (dv (pv 0))))))
  (scons (sif (PW.pt (dor (dct o_B op_gt (dcall h_forced_depth hr (by rfl) (acons (dv (pv 1)) (acons (dcall h_meeting_pairs hr (by rfl) (acons (dv (pv 0)) anil) ) anil)) ) (db (dcall h_depth_of hr (by rfl) (acons (dv (pv 0)) anil) )) (nomark _)) (dor1 (dct o_ne (op_neD hr.units) (dB1 o_len call_len (by rfl) m.b_len (by decide +kernel) (db (dcall h_apart hr (by rfl) (acons (dv (pv 0)) anil) ))) (db (dB1 o_len call_len (by rfl) m.b_len (by decide +kernel) (db (dcall h_hitting hr (by rfl) (acons (dv (pv 0)) anil) )))) (nomark _))))) (sone (sret dbl)) snil)
  (scons (sfor (vs := [2]) rfl (ituple (dtup (acons dint (acons dint (acons dint anil))))) (pg_name (i := 2) nd rfl (by first | exact Or.inl rfl | exact Or.inr rfl)) (gname (by decide)) (sone (sfor (vs := [3]) rfl (irange2 (by rfl) m.b_range (acons (dv (pv 2)) (acons (d2 o_add op_addX (dv (pv 1)) (db dint)) anil))) (pg_name (i := 3) nd rfl (by first | exact Or.inl rfl | exact Or.inr rfl)) (gname (by decide)) (sone (sif (PW.pt (dand (dT (dcall h_have_meetings hr (by rfl) (acons (dv (pv 0)) (acons (dv (pv 3)) (acons (dv (pv 2)) anil))) )) (dand1 (dct o_B op_gt (dB1 o_len call_len (by rfl) m.b_len (by decide +kernel) (db (dcall h_hitting hr (by rfl) (acons (dv (pv 0)) anil) ))) (db (d2 o_add op_addX (d2 o_sub op_subX (dv (pv 3)) (db (dv (pv 2)))) (db dint))) (nomark _))))) (sone (sret dbl)) snil)))))
  (sone (sret (dandV (dcall h_have_meetings hr (by rfl) (acons (dv (pv 0)) (acons (d2 o_add op_addX (dB1 o_len call_len (by rfl) m.b_len (by decide +kernel) (db (dcall h_apart hr (by rfl) (acons (dv (pv 0)) anil) ))) (db dint)) (acons dint anil))) ) (dandV1 (dnotV (dcall h_have_meetings hr (by rfl) (acons (dv (pv 0)) (acons (dB1 o_len call_len (by rfl) m.b_len (by decide +kernel) (db (dcall h_apart hr (by rfl) (acons (dv (pv 0)) anil) ))) (acons dint anil))) )))))))))
theorem k_law_long_right (c : Ct P w K mg base) : Has P w K mg base "_law_long_right" 1 5 (spD K g_law_long_right) := by
  obtain ⟨f, fd, F, gm⟩ := c.f_law_long_right
  exact hasD 1 3 F sc_law_long_right gm (F.bindsN fun _ _ _ _ _ _ us hl => match us, hl with | [_], _ => rfl) rfl rfl (b_law_long_right c.m (h_hitting c) (h_apart c) (h_depth_of c) (h_forced_depth c) (h_meeting_pairs c) (h_have_meetings c))
theorem h_law_long_right (c : Ct P w K mg base) : Has P w K mg base "_law_long_right" 1 5 (spD K gm_law_long_right) := k_law_long_right c
theorem sc_law : FnScope ["script", "k", "entry", "source", "lap", "wide", "spans"] ["script"] (defScope (topS 98)) := ⟨rfl, rfl, rfl, by decide +kernel, rfl, by decide +kernel, by decide +kernel⟩
theorem b_law (m : Mg mg) (h_law_source : Has P w K mg base "_law_source" 2 1 (spN K gm_law_source)) (h_law_parties_right : Has P w K mg base "_law_parties_right" 1 20 (spD K gm_law_parties_right)) (h_law_spans : Has P w K mg base "_law_spans" 3 2 (spM K gm_law_spans)) (h_law_draw : Has P w K mg base "_law_draw" 2 1 (spM K gm_law_draw)) (h_law_long_right : Has P w K mg base "_law_long_right" 1 5 (spD K gm_law_long_right)) (h_apart : Has P w K mg base "apart" 1 4 (spD K gm_apart)) : BodyOk P w K mg base ["script", "k", "entry", "source", "lap", "wide", "spans"] "law" (topS 98) 20 [] s_law := fun f cdv A outer sh H hr => by
  have nd := sc_law.nd
  exact (scons (sfor (vs := [1, 2]) rfl (ienum (by rfl) m.b_enumerate (acons (dsl (d2 o_add op_addX (dv (pv 0)) (db (dL (dlst (acons dint anil))))) onone (osome (dB2 o_max2 (call_max2 rfl) (by rfl) m.b_max (by decide +kernel) dint (db (dB2 o_min2 (call_min2 rfl) (by rfl) m.b_min (by decide +kernel) (dB1 o_len call_len (by rfl) m.b_len (by decide +kernel) (db (dv (pv 0)))) (db dint)))))) anil)) (pg_tup rfl (pgs_cons (pg_name (i := 1) nd rfl (by first | exact Or.inl rfl | exact Or.inr rfl)) (pgs_cons (pg_name (i := 2) nd rfl (by first | exact Or.inl rfl | exact Or.inr rfl)) pgs_nil))) (gtup (gcons (gname (by decide)) (gcons (gname (by decide)) gnil))) (scons (ssetN1 (by decide) (ps_set (i := 3) nd rfl (by first | exact Or.inl rfl | exact Or.inr rfl) (dcallN h_law_source hr (by rfl) (acons (dv (pv 2)) (acons (dv (pv 1)) anil)) )))
  (scons (sfor (vs := [4]) rfl (irange1 (by rfl) m.b_range (acons dint anil)) (pg_name (i := 4) nd rfl (by first | exact Or.inl rfl | exact Or.inr rfl)) (gname (by decide)) (scons (sset1 (ps_set (i := 5) nd rfl (by first | exact Or.inl rfl | exact Or.inr rfl) (dix (dL (dlst (acons dint (acons dint (acons (d2 o_pow op_powX dint (db dint)) anil))))) (db (dv (pv 4))) (fun _ _ => rfl))))
  (scons (sif (dnot (dT (dcall h_law_parties_right hr (by rfl) (acons (dcallM h_law_spans hr (by rfl) (pv 3) (acons (d2 o_add op_addX dint (db (dcallM h_law_draw hr (by rfl) (pv 3) (acons dint anil) ))) (acons (dv (pv 5)) anil)) ) anil) ))) (sone (sret dbl)) snil)
  (scons (sset1 (ps_set (i := 6) nd rfl (by first | exact Or.inl rfl | exact Or.inr rfl) (dcallM h_law_spans hr (by rfl) (pv 3) (acons (d2 o_add op_addX dint (db (dcallM h_law_draw hr (by rfl) (pv 3) (acons dint anil) ))) (acons (dv (pv 5)) anil)) )))
  (sone (sif (PW.pt (dand (dct o_B op_gt (dB1 o_len call_len (by rfl) m.b_len (by decide +kernel) (db (dcall h_apart hr (by rfl) (acons (dv (pv 6)) anil) ))) (db dint) (nomark _)) (dand1 (dnot (dT (dcall h_law_long_right hr (by rfl) (acons (dv (pv 6)) anil) )))))) (sone (sret dbl)) snil))))))
  (sone (sif (PW.pt (dand (dct o_eq (op_eqD hr.units) (dv (pv 1)) (db dint) (nomark _)) (dand (dct o_neS (op_neD hr.units) (dv (pv 0)) (db (dL (dlst anil))) (nomark _)) (dand1 (dnot (dT (dcall h_law_parties_right hr (by rfl) (acons (dcallM h_law_spans hr (by rfl) (pv 3) (acons dint (acons dint anil)) ) anil) ))))))) (sone (sret dbl)) snil)))))
  (sone (sret (dandV (dcall h_law_parties_right hr (by rfl) (acons (dL (dlst (acons (dtup (acons dint (acons dint anil))) (acons (dtup (acons dint (acons dint anil))) (acons (dtup (acons dint (acons dint anil))) anil))))) anil) ) (dandV1 (dcall h_law_long_right hr (by rfl) (acons (dL (dlst (acons (dtup (acons dint (acons dint anil))) (acons (dtup (acons dint (acons dint anil))) (acons (dtup (acons dint (acons dint anil))) (acons (dtup (acons dint (acons dint anil))) anil)))))) anil) ))))))
theorem k_law (c : Ct P w K mg base) : Has P w K mg base "law" 1 21 (spD K g_law) := by
  obtain ⟨f, fd, F, gm⟩ := c.f_law
  exact hasD 1 6 F sc_law gm (F.bindsN fun _ _ _ _ _ _ us hl => match us, hl with | [_], _ => rfl) rfl rfl (b_law c.m (h_law_source c) (h_law_parties_right c) (h_law_spans c) (h_law_draw c) (h_law_long_right c) (h_apart c))
theorem h_law (c : Ct P w K mg base) : Has P w K mg base "law" 1 21 (spD K gm_law) := k_law c
end
end CS
set_option Elab.async false
set_option linter.all false
set_option maxRecDepth 100000
set_option maxHeartbeats 0
namespace CS
open PySem PySem.Spec PyProof.Rows L2
theorem ok_law {P : Program} {w : World} {K : PySem.W.Frag} {mg : Str → Option Value} {base : Heap} {f : Addr} {fd : FuncData} (c : Ct P w K mg base) (F : FunD K "law" "law" (defArgs (topS 98)) (defBody (topS 98)) (defScope (topS 98)) [] [] f fd) : FnOk P w K mg base CX0 21 f fd ["script"] (spD K g_law) :=
  okD 1 6 F sc_law rfl rfl (b_law c.m (h_law_source c) (h_law_parties_right c) (h_law_spans c) (h_law_draw c) (h_law_long_right c) (h_apart c))
end CS
namespace CS
open PySem PySem.Spec PyProof.Rows L2
theorem mg_of {K : PySem.W.Frag} {h : Heap} {mg : Str → Option Value} (X : K.In h) (G : h.Ns mainGlobals mg) (c : He.SaysD faH fnH K) : Mg mg :=
  ⟨He.free_ok X G (c.fact 75 (f := .free "isinstance") rfl),
   He.free_ok X G (c.fact 76 (f := .free "int") rfl),
   He.free_ok X G (c.fact 77 (f := .free "bool") rfl),
   He.free_ok X G (c.fact 78 (f := .free "tuple") rfl),
   He.free_ok X G (c.fact 79 (f := .free "all") rfl),
   He.free_ok X G (c.fact 80 (f := .free "len") rfl),
   He.free_ok X G (c.fact 81 (f := .free "abs") rfl),
   He.free_ok X G (c.fact 82 (f := .free "zip") rfl),
   He.free_ok X G (c.fact 83 (f := .free "list") rfl),
   He.free_ok X G (c.fact 84 (f := .free "enumerate") rfl),
   He.free_ok X G (c.fact 85 (f := .free "any") rfl),
   He.free_ok X G (c.fact 86 (f := .free "range") rfl),
   He.free_ok X G (c.fact 87 (f := .free "max") rfl),
   He.free_ok X G (c.fact 88 (f := .free "sorted") rfl),
   He.free_ok X G (c.fact 89 (f := .free "min") rfl),
   He.int_ok X G (c.fact 90 (f := .int "MOST_ITEM" 20) rfl),
   He.int_ok X G (c.fact 91 (f := .int "MOST_UNKNOWNS" 5) rfl),
   He.int_ok X G (c.fact 92 (f := .int "MOST_KINDS" 12) rfl),
   He.int_ok X G (c.fact 93 (f := .int "MOST_PARTIES" 8) rfl),
   He.int_ok X G (c.fact 94 (f := .int "MOST_IN_PARTY" 12) rfl),
   He.int_ok X G (c.fact 95 (f := .int "MOST_RANGES" 400) rfl),
   He.int_ok X G (c.fact 96 (f := .int "MOST_NUMBER" 1000000000000) rfl)⟩
theorem fun_of {K : PySem.W.Frag} {h : Heap} {mg : Str → Option Value} (X : K.In h) (G : h.Ns mainGlobals mg) (c : He.SaysD faH fnH K) (i j : Nat) (x : Str) (t : Nat) (h1 : fnH[i]? = some (mkD x t)) (h2 : faH[j]? = some (.glo x)) :
    ∃ f fd, FunD K x x (defArgs (topS t)) (defBody (topS t)) (defScope (topS t)) [] [] f fd ∧ mg x = some (.ref f) := by
  obtain ⟨fd, F⟩ := c.def_ i h1
  exact ⟨_, fd, F, He.glo_ok X G (c.fact j h2)⟩
theorem ct_of {P : Program} {w : World} {K : PySem.W.Frag} {h base : Heap} {mg : Str → Option Value} (X : K.In h) (G : h.Ns mainGlobals mg) (c : He.SaysD faH fnH K) : Ct P w K mg base :=
  ⟨mg_of X G c, fun_of X G c 0 0 "is_integer" 12 rfl rfl,
   fun_of X G c 1 1 "are_integers" 13 rfl rfl,
   fun_of X G c 2 2 "common" 14 rfl rfl,
   fun_of X G c 3 3 "divisor_of" 15 rfl rfl,
   fun_of X G c 4 4 "lowest" 16 rfl rfl,
   fun_of X G c 5 5 "added" 17 rfl rfl,
   fun_of X G c 6 6 "scaled" 18 rfl rfl,
   fun_of X G c 7 7 "summed" 19 rfl rfl,
   fun_of X G c 8 8 "is_below" 20 rfl rfl,
   fun_of X G c 9 9 "value_at" 21 rfl rfl,
   fun_of X G c 10 10 "is_kind" 22 rfl rfl,
   fun_of X G c 11 11 "is_book" 23 rfl rfl,
   fun_of X G c 12 12 "is_fraction" 24 rfl rfl,
   fun_of X G c 13 13 "is_rule_of" 25 rfl rfl,
   fun_of X G c 14 14 "are_bounds" 26 rfl rfl,
   fun_of X G c 15 15 "need_book" 27 rfl rfl,
   fun_of X G c 16 16 "need_world" 28 rfl rfl,
   fun_of X G c 17 17 "need_number" 29 rfl rfl,
   fun_of X G c 18 18 "least_bounds" 30 rfl rfl,
   fun_of X G c 19 19 "against" 32 rfl rfl,
   fun_of X G c 20 20 "row_of" 33 rfl rfl,
   fun_of X G c 21 21 "with_row" 34 rfl rfl,
   fun_of X G c 22 22 "ways_behind" 35 rfl rfl,
   fun_of X G c 23 23 "positive_ways" 36 rfl rfl,
   fun_of X G c 24 24 "knots_behind" 37 rfl rfl,
   fun_of X G c 25 25 "knots_of" 38 rfl rfl,
   fun_of X G c 26 26 "knots_in" 39 rfl rfl,
   fun_of X G c 27 27 "sum_in" 40 rfl rfl,
   fun_of X G c 28 28 "is_broken" 41 rfl rfl,
   fun_of X G c 29 29 "point_of_rows" 42 rfl rfl,
   fun_of X G c 30 30 "within_bounds" 43 rfl rfl,
   fun_of X G c 31 31 "face_point" 44 rfl rfl,
   fun_of X G c 32 32 "some_point" 45 rfl rfl,
   fun_of X G c 33 33 "taken" 47 rfl rfl,
   fun_of X G c 34 34 "greatest_in" 48 rfl rfl,
   fun_of X G c 35 35 "need_points" 49 rfl rfl,
   fun_of X G c 36 36 "need_one" 51 rfl rfl,
   fun_of X G c 37 37 "tight_in" 52 rfl rfl,
   fun_of X G c 38 38 "tight" 53 rfl rfl,
   fun_of X G c 39 39 "meets" 55 rfl rfl,
   fun_of X G c 40 40 "is_party" 59 rfl rfl,
   fun_of X G c 41 41 "need_parties" 60 rfl rfl,
   fun_of X G c 42 42 "need_book_and_parties" 61 rfl rfl,
   fun_of X G c 43 43 "bounds_of" 62 rfl rfl,
   fun_of X G c 44 44 "all_sets" 63 rfl rfl,
   fun_of X G c 45 45 "sets_by" 64 rfl rfl,
   fun_of X G c 46 46 "clashing_sets" 65 rfl rfl,
   fun_of X G c 47 47 "meeting_sets" 66 rfl rfl,
   fun_of X G c 48 48 "all_meet" 67 rfl rfl,
   fun_of X G c 49 49 "party_clashes" 68 rfl rfl,
   fun_of X G c 50 50 "crowds" 69 rfl rfl,
   fun_of X G c 51 51 "fewest_parties_out" 70 rfl rfl,
   fun_of X G c 52 52 "meeting_place" 71 rfl rfl,
   fun_of X G c 53 53 "combined" 72 rfl rfl,
   fun_of X G c 54 54 "with_items" 74 rfl rfl,
   fun_of X G c 55 55 "boxes" 75 rfl rfl,
   fun_of X G c 56 56 "need_ranges" 79 rfl rfl,
   fun_of X G c 57 57 "crowd_in" 80 rfl rfl,
   fun_of X G c 58 58 "pairs_by" 81 rfl rfl,
   fun_of X G c 59 59 "by_ends" 82 rfl rfl,
   fun_of X G c 60 60 "apart_in" 83 rfl rfl,
   fun_of X G c 61 61 "roomed" 84 rfl rfl,
   fun_of X G c 62 62 "depth_of" 85 rfl rfl,
   fun_of X G c 63 63 "meeting_pairs" 86 rfl rfl,
   fun_of X G c 64 64 "forced_depth" 87 rfl rfl,
   fun_of X G c 65 65 "apart" 88 rfl rfl,
   fun_of X G c 66 66 "hitting" 89 rfl rfl,
   fun_of X G c 67 67 "have_meetings" 90 rfl rfl,
   fun_of X G c 68 68 "fewest_left" 91 rfl rfl,
   fun_of X G c 69 69 "_law_source" 93 rfl rfl,
   fun_of X G c 70 70 "_law_draw" 94 rfl rfl,
   fun_of X G c 71 71 "_law_spans" 95 rfl rfl,
   fun_of X G c 72 72 "_law_parties_right" 96 rfl rfl,
   fun_of X G c 73 73 "_law_long_right" 97 rfl rfl,
   fun_of X G c 74 74 "law" 98 rfl rfl⟩
theorem sp_law {K : PySem.W.Frag} (H : Hp) (a : Addr) (ns : List Int) (hg : g_law [scr ns] = some (.bool true)) (hS : SqL K H a (ns.map V.int)) : spD K g_law [.ref a] H (fun v _ => v = .bl true) fun _ _ _ => False :=
  ⟨H, [scr ns], fun _ _ z => z, .cons (.scr hS) .nil, _, hg, fun _ _ v _ _ _ _ d => by cases d; rfl⟩
end CS
open PySem PySem.W PySem.Calls PyProof.Rows
theorem PySem.Challenge.cw_clashsize_k92_whole_ranges_as_parties_holds : PySem.Challenge.rw_clashsize_k92_whole_ranges_as_parties.Holds := by
  w_on; o_law
  refine HandSHeadRun.head_any (r := OpenLaw.row PySem.Challenge.rw_clashsize_k92_whole_ranges_as_parties) (q := view (OpenLaw.row PySem.Challenge.rw_clashsize_k92_whole_ranges_as_parties).prog [98]) (H := CS.hkH) (ob := CS.obH) (M := 4000) (loose := CS.lsH) (d := HandSHeadRun.topDef (OpenLaw.row PySem.Challenge.rw_clashsize_k92_whole_ranges_as_parties).prog 98) (kwd := []) CS.obH_eq
    (by kernel_rfl) (fun s => by kernel_rfl) CS.runH (by kernel_rfl) (by kernel_rfl) (by kernel_rfl) (by rfl) (by first | assumption | decide +kernel) (by decide +kernel) ⟨rfl, rfl, rfl, rfl, rfl, by decide +kernel⟩ ?hw ?hc
  case hw => w_witness2
  case hc =>
    refine L2.walk_ofE (l := PySem.Challenge.rw_clashsize_k92_whole_ranges_as_parties) (n := 63) (k := 21) (x := "script") (CX := L2.CX0) rfl (by decide) (by kernel_rfl) ⟨rfl, by decide, by decide⟩ ?F (fun _ _ _ _ z => z)
    intro w mg faH h Y G hmg0
    obtain ⟨K, KX, c⟩ := Y
    have hmg : mg ("law" : PySem.Str) = some (.ref faH) := by
      have e : (HandSHeadRun.topDef (OpenLaw.row PySem.Challenge.rw_clashsize_k92_whole_ranges_as_parties).prog 98).name = ("law" : PySem.Str) := by kernel_rfl
      rw [← e]
      exact hmg0
    obtain ⟨f, fd, F, gm⟩ := CS.fun_of KX G c 74 74 "law" 98 rfl rfl
    have e := hmg.symm.trans gm
    cases e
    have b := L2.FunD.bindsA (ps := ["script"]) F fun _ _ _ _ _ _ us hl => match us, hl with | [_], _ => rfl
    exact ⟨K, fd, CS.spD K CS.g_law, KX, fun s v => b s [v] rfl, fun H a ns hl _ hS => CS.sp_law H a ns (CS.v_law ns (by omega)) hS, fun base _ _ => CS.ok_law (P := PySem.Challenge.rw_clashsize_k92_whole_ranges_as_parties.prog) (CS.ct_of KX G c) F⟩
