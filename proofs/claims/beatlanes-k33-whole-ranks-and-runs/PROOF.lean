import PyProof.Rows.All
import Wide.All
import OpenK.AllK
import Wide.FinOn
import KE.KStateDown
import HandS.ForMost
import HandS.Defaults
import HandS.Head0
import HandS.Head1
import HandS.Head2
import HandS.HeadEnd
import HandS.HeadHook1
import HandS.HeadHook2
import HandS.HeadHook3
import HandS.HeadHook4
import HandS.HeadWalk
import HandS.EndTab
import PySem.Challenge.RW_beatlanes_k33_whole_ranks_and_runs
import HandS.Wide
import HandS.IsInst
import HandS.Walk
import HandS.Flow
import HandS.Lambda
import HandS.Nested
import HandS.Evl
import HandS.Text
import HandS.Rev
import HandS.More
import HandS.ForExc
import HandS.SetFor
import HandS.Strs
import KE.GoesEnum
import HandS.DictComp
import HandS.TupAny
set_option Elab.async false
set_option linter.all false
set_option maxRecDepth 100000
set_option maxHeartbeats 0
/-! the head: what the top has written, by one kernel run -/
namespace BHead
open PySem PySem.Spec PyProof.Rows L2
def top (i : Nat) : Stmt := PySem.Challenge.pw_beatlanes_k33_whole_ranks_and_runs.main.body.getD i (.Pass ⟨0, 0, 0, 0⟩)
abbrev dOf (x : Str) (i : Nat) : He.DefD := ⟨(x, none), x, x, defArgs (top i), defBody (top i), defScope (top i), [], []⟩

def fn0 : List He.DefD := [dOf "is_whole" 10, dOf "is_from" 11, dOf "divisor" 12, dOf "lowest" 13, dOf "is_fraction" 14, dOf "is_not_below" 15, dOf "is_above" 16, dOf "fraction" 17, dOf "plus" 18, dOf "minus" 19, dOf "times" 20, dOf "over" 21, dOf "is_less" 22, dOf "floor_of" 23, dOf "as_fraction" 24, dOf "part_way" 25, dOf "is_stretch" 29, dOf "growth" 30, dOf "go_on" 31, dOf "is_tempo" 32, dOf "line_at" 33, dOf "length_at" 34, dOf "sum_ahead" 35, dOf "moment_by" 36, dOf "must_be_place" 37, dOf "is_name" 51, dOf "are_tones" 52, dOf "is_take" 53, dOf "is_corner" 54, dOf "far_between" 55]
def fn1 : List He.DefD := [dOf "lies_straight" 56, dOf "is_shape" 57, dOf "is_laid" 58, dOf "is_piece" 59, dOf "is_lane" 60, dOf "first_where" 61, dOf "numbered" 62, dOf "fault_of_takes" 63, dOf "fault_of_lanes" 64, dOf "fault_of_pieces" 65, dOf "fault_of" 66, dOf "must_be_sheet" 67, dOf "lane_by" 68, dOf "take_by" 69, dOf "piece_by" 70, dOf "lane_of" 71, dOf "with_lane" 72, dOf "with_pieces" 73, dOf "with_piece" 74, dOf "covers" 76, dOf "gone_through" 77, dOf "content_by" 78, dOf "level_by" 79, dOf "tone_by" 80, dOf "sound_by" 81, dOf "highest_by" 82, dOf "lane_by_place" 83, dOf "looked_up" 84, dOf "sound_at" 85, dOf "lane_at" 86]
def fn2 : List He.DefD := [dOf "runs_by" 87, dOf "runs_of" 88, dOf "shift" 90, dOf "raise_to" 91, dOf "_law_pen" 93, dOf "_law_draw" 94, dOf "_law_low" 95, dOf "_law_sub" 96, dOf "_law_mul" 97, dOf "_law_div" 98, dOf "_law_names" 99, dOf "_law_numbers" 100, dOf "_law_above" 101, dOf "_law_from" 102, dOf "_law_goes_on" 103, dOf "_law_tempo" 104, dOf "_law_take" 105, dOf "_law_plain" 106, dOf "_law_shape" 107, dOf "_law_piece" 108, dOf "_law_sheet" 109, dOf "_law_place" 110, dOf "_law_pieces_of" 111, dOf "_law_good_sheet" 112, dOf "_law_steps" 113, dOf "_law_runs" 114, dOf "_law_by_rank" 115, dOf "_law_right" 116, dOf "law" 117]
def fn : List He.DefD := fn0 ++ fn1 ++ fn2
def fg0 : List He.Fa := [.glo "is_whole", .glo "is_from", .glo "divisor", .glo "lowest", .glo "is_fraction", .glo "is_not_below", .glo "is_above", .glo "fraction", .glo "plus", .glo "minus", .glo "times", .glo "over", .glo "is_less", .glo "floor_of", .glo "as_fraction", .glo "part_way", .glo "is_stretch", .glo "growth", .glo "go_on", .glo "is_tempo", .glo "line_at", .glo "length_at", .glo "sum_ahead", .glo "moment_by", .glo "must_be_place", .glo "is_name", .glo "are_tones", .glo "is_take", .glo "is_corner", .glo "far_between"]
def fg1 : List He.Fa := [.glo "lies_straight", .glo "is_shape", .glo "is_laid", .glo "is_piece", .glo "is_lane", .glo "first_where", .glo "numbered", .glo "fault_of_takes", .glo "fault_of_lanes", .glo "fault_of_pieces", .glo "fault_of", .glo "must_be_sheet", .glo "lane_by", .glo "take_by", .glo "piece_by", .glo "lane_of", .glo "with_lane", .glo "with_pieces", .glo "with_piece", .glo "covers", .glo "gone_through", .glo "content_by", .glo "level_by", .glo "tone_by", .glo "sound_by", .glo "highest_by", .glo "lane_by_place", .glo "looked_up", .glo "sound_at", .glo "lane_at"]
def fg2 : List He.Fa := [.glo "runs_by", .glo "runs_of", .glo "shift", .glo "raise_to", .glo "_law_pen", .glo "_law_draw", .glo "_law_low", .glo "_law_sub", .glo "_law_mul", .glo "_law_div", .glo "_law_names", .glo "_law_numbers", .glo "_law_above", .glo "_law_from", .glo "_law_goes_on", .glo "_law_tempo", .glo "_law_take", .glo "_law_plain", .glo "_law_shape", .glo "_law_piece", .glo "_law_sheet", .glo "_law_place", .glo "_law_pieces_of", .glo "_law_good_sheet", .glo "_law_steps", .glo "_law_runs", .glo "_law_by_rank", .glo "_law_right", .glo "law"]
def ff : List He.Fa := [.free "abs", .free "all", .free "any", .free "bool", .free "dict", .free "enumerate", .free "int", .free "isinstance", .free "len", .free "list", .free "max", .free "min", .free "range", .free "reversed", .free "set", .free "sorted", .free "str", .free "sum", .free "tuple", .free "zip"]
def fi : List He.Fa := [.int "MOST_STRETCHES" 24, .int "MOST_LAID" 200000, .int "LONGEST_NAME" 8, .int "MOST_TONES" 200, .int "LOUDEST_TONE" 100000, .int "MOST_CORNERS" 12, .int "MOST_NUMBER" 99999, .int "LAST_STEP" 100000, .int "MOST_LANES" 12, .int "MOST_TAKES" 12, .int "MOST_PIECES" 60, .int "PIECE_PARTS" 8, .str "LETTERS" "abcdefghijklmnopqrstuvwxyz", .glo "NOUGHT", .glo "WAYS"]
def fa : List He.Fa := fg0 ++ fg1 ++ fg2 ++ ff ++ fi
def exB (K : PySem.W.Frag) : Bool := He.tupB K "NOUGHT" [.int 0, .int 1] && (He.tupB K "WAYS" [.str "free", .str "bound"] && !decide ((He.cT K ("fault_of_takes", none)).2 = (He.cT K ("fault_of_lanes", none)).2))
def tf : List He.Defn := [("fault_of_takes", none), ("fault_of_lanes", none)]
def as0 : List Addr := [3, 100, 274]
def as1 : List Addr := [107, 106, 114, 113, 121, 120, 128, 127, 135, 134, 142, 141, 149, 148, 156, 155, 163, 162, 170, 169, 177, 176, 184, 183, 191, 190, 198, 197, 205, 204, 212, 211, 219, 218, 226, 225, 233, 232, 238, 237]
def as2 : List Addr := [245, 244, 252, 251, 259, 258, 266, 265, 273, 272, 279, 278, 284, 283, 291, 290, 298, 297, 305, 304, 312, 311, 317, 316, 324, 323, 331, 330, 338, 337, 345, 344, 350, 349, 355, 354, 360, 359, 365, 364]
def as3 : List Addr := [370, 369, 377, 376, 384, 383, 391, 390, 398, 397, 403, 402, 408, 407, 415, 414, 422, 421, 429, 428, 436, 435, 443, 442, 450, 449, 457, 456, 464, 463, 471, 470, 478, 477, 485, 484, 492, 491, 499, 498]
def as4 : List Addr := [504, 503, 511, 510, 518, 517, 523, 522, 530, 529, 537, 536, 544, 543, 551, 550, 558, 557, 565, 564, 572, 571, 577, 576, 584, 583, 591, 590, 598, 597, 605, 604, 610, 609, 617, 616, 624, 623, 631, 630]
def as5 : List Addr := [636, 635, 643, 642, 650, 649, 657, 656, 664, 663, 671, 670, 678, 677, 683, 682, 688, 687]
def ads : List Addr := as0 ++ as1 ++ as2 ++ as3 ++ as4 ++ as5
abbrev R : PySem.W.OpenRow := PySem.W.OpenLaw.row PySem.Challenge.rw_beatlanes_k33_whole_ranks_and_runs
/-- what is told of the written part K, and of the tables -/
structure Says (fa : List He.Fa) (fn : List He.DefD) (tf : List He.Defn) (ex : PySem.W.Frag → Bool) (h : Heap) (K : PySem.W.Frag) : Prop where
  d : He.SaysD fa fn K
  more : ex K = true
  hd : ∀ p ∈ tf, PySem.W.codeHdIn K (He.cT K p).1 (He.cT K p).2 = true
  out : ∀ p ∈ tf, K.lookup (He.cT K p).2 = none
  empty : ∀ p ∈ tf, h.get? (He.cT K p).2 = some { cls := .none, data := .fields #[] }
abbrev AlL : Type := He.AlD × Bool
def obsL (as : List Addr) (fa : List He.Fa) (fn : List He.DefD) (tf : List He.Defn) (ex : PySem.W.Frag → Bool) (g : Addr → Option Obj) : AlL := (He.obsD fa fn (He.frT g as), ex (He.frT g as) && He.tabsB g tf (He.frT g as))
theorem says_of {as : List Addr} {fa : List He.Fa} {fn : List He.DefD} {tf : List He.Defn} {ex : PySem.W.Frag → Bool} {h : Heap} (e : obsL as fa fn tf ex h.get? = (He.valD fn, true)) : Says fa fn tf ex h (He.frT h.get? as) := by
  have e1 : He.obsD fa fn (He.frT h.get? as) = He.valD fn := congrArg (fun z : AlL => z.1) e
  have e2 : (ex (He.frT h.get? as) && He.tabsB h.get? tf (He.frT h.get? as)) = true := congrArg (fun z : AlL => z.2) e
  obtain ⟨h1, h2⟩ := He.ba e2
  have key : ∀ p ∈ tf, PySem.W.codeHdIn (He.frT h.get? as) (He.cT (He.frT h.get? as) p).1 (He.cT (He.frT h.get? as) p).2 = true ∧ ∃ o, h.get? (He.cT (He.frT h.get? as) p).2 = some o ∧ He.emptyTab o = true := fun p hp => by
    obtain ⟨h3, h4⟩ := He.ba (List.all_eq_true.mp h2 p hp)
    refine ⟨h3, ?_⟩
    cases q : h.get? (He.cT (He.frT h.get? as) p).2 with
    | none =>
      rw [q] at h4
      cases h4
    | some o =>
      rw [q] at h4
      exact ⟨o, rfl, h4⟩
  exact ⟨e1, h1, fun p hp => (key p hp).1, fun p hp => by
    obtain ⟨_, o, q, z⟩ := key p hp
    exact He.frT_none q z, fun p hp => by
    obtain ⟨_, o, q, z⟩ := key p hp
    rw [q, He.emptyTab_eq z]⟩
def hookL (as : List Addr) (fa : List He.Fa) (fn : List He.DefD) (tf : List He.Defn) (ex : PySem.W.Frag → Bool) : PySem.W.Hook where
  α := AlL
  obs := fun s => obsL as fa fn tf ex s.heap.get?
  val := fun _ => (He.valD fn, true)
  says := fun _ h => ∃ K : PySem.W.Frag, K.In h ∧ Says fa fn tf ex h K
  of := fun _ _ e => ⟨_, He.frT_in, says_of e⟩
  keeps := fun _ _ _ ⟨K, hK, c⟩ k => ⟨K, PySem.W.Frag.In.keeps hK k, ⟨c.d, c.more, c.hd, c.out, fun p hp => k _ _ (c.empty p hp)⟩⟩
abbrev hk : PySem.W.Hook := hookL ads fa fn tf exB
def ob (s : PySem.W.SharedT) : AlL := obsL ads fa fn tf exB (HandSHeadRun.getT s)
theorem ob_eq (s : PySem.W.SharedT) : ob s = hk.obs s.abs := by
  have e : HandSHeadRun.getT s = s.abs.heap.get? := funext (HandSHeadRun.getT_eq s)
  unfold ob
  rw [e]
  rfl

def nm0 : List PySem.Str := ["LaneError", "NoFraction", "NoPlace", "NoSheet", "NoLane", "NoPiece", "NoRank", "is_whole", "is_from", "divisor", "lowest", "is_fraction", "is_not_below", "is_above", "fraction", "plus", "minus", "times", "over", "is_less", "floor_of", "as_fraction", "part_way", "is_stretch", "growth", "go_on", "is_tempo", "line_at", "length_at", "sum_ahead"]
def nm1 : List PySem.Str := ["moment_by", "must_be_place", "is_name", "are_tones", "is_take", "is_corner", "far_between", "lies_straight", "is_shape", "is_laid", "is_piece", "is_lane", "first_where", "numbered", "fault_of_takes", "fault_of_lanes", "fault_of_pieces", "fault_of", "must_be_sheet", "lane_by", "take_by", "piece_by", "lane_of", "with_lane", "with_pieces", "with_piece", "covers", "gone_through", "content_by", "level_by"]
def nm2 : List PySem.Str := ["tone_by", "sound_by", "highest_by", "lane_by_place", "looked_up", "sound_at", "lane_at", "runs_by", "runs_of", "shift", "raise_to", "_law_pen", "_law_draw", "_law_low", "_law_sub", "_law_mul", "_law_div", "_law_names", "_law_numbers", "_law_above", "_law_from", "_law_goes_on", "_law_tempo", "_law_take", "_law_plain", "_law_shape", "_law_piece", "_law_sheet", "_law_place", "_law_pieces_of"]
def nm3 : List PySem.Str := ["_law_good_sheet", "_law_steps", "_law_runs", "_law_by_rank", "_law_right", "NOUGHT", "MOST_STRETCHES", "MOST_LAID", "LETTERS", "LONGEST_NAME", "MOST_TONES", "LOUDEST_TONE", "MOST_CORNERS", "MOST_NUMBER", "LAST_STEP", "MOST_LANES", "MOST_TAKES", "MOST_PIECES", "WAYS", "PIECE_PARTS"]
def names : List PySem.Str := nm0 ++ nm1 ++ nm2 ++ nm3
theorem run (w : World) : HandSHeadRun.RunEq R (PySem.W.view R.prog [117]) hk ob 20000 names w := by
  intro os
  kernel_rfl
end BHead
set_option maxHeartbeats 4000000
/-! Foundation, part 1: data, what stands for it, states, wishes. -/
namespace BL
open PySem PySem.Spec PyProof.Rows L2 Evl

/-! ### data -/
inductive Dt where
  | non
  | bl (b : Bool)
  | int (i : Int)
  | str (s : Str)
  | tup (ds : List Dt)
  | lst (ds : List Dt)
  | dct (kvs : List (Int × Int))
  | adr (a : Addr)

def kvI (kvs : List (Int × Int)) : List (Key × V) := kvs.map fun p => (Sum.inl p.1, V.int p.2)

mutual
/-- v stands for d in the frozen part F -/
def Rp (K : PySem.W.Frag) (F : Hp) : V → Dt → Prop
  | v, .non => v = .non
  | v, .bl b => v = .bl b
  | v, .int i => v = .int i
  | v, .str s => v = .str s
  | v, .tup ds => ∃ a vs, v = .ref a ∧ SqT K F a vs ∧ Rps K F vs ds
  | v, .lst ds => ∃ a vs, v = .ref a ∧ F a = some (.lst vs) ∧ Rps K F vs ds
  | v, .dct kvs => ∃ a, v = .ref a ∧ F a = some (.dK (kvI kvs))
  | v, .adr a => v = .ref a
def Rps (K : PySem.W.Frag) (F : Hp) : List V → List Dt → Prop
  | vs, [] => vs = []
  | vs, d :: ds => ∃ v r, vs = v :: r ∧ Rp K F v d ∧ Rps K F r ds
end

section
variable {K : PySem.W.Frag} {F F' : Hp}
mutual
theorem Rp.mono (e : Ex F F') : ∀ {d : Dt} {v : V}, Rp K F v d → Rp K F' v d
  | .non, _, h => by simpa [Rp] using h
  | .bl _, _, h => by simpa [Rp] using h
  | .int _, _, h => by simpa [Rp] using h
  | .str _, _, h => by simpa [Rp] using h
  | .adr _, _, h => by simpa [Rp] using h
  | .tup ds, v, h => by
    obtain ⟨a, vs, h1, h2, h3⟩ := (show ∃ a vs, v = .ref a ∧ SqT K F a vs ∧ Rps K F vs ds by simpa [Rp] using h)
    simp only [Rp]
    exact ⟨a, vs, h1, ex_t e h2, Rps.mono e h3⟩
  | .lst ds, v, h => by
    obtain ⟨a, vs, h1, h2, h3⟩ := (show ∃ a vs, v = .ref a ∧ F a = some (.lst vs) ∧ Rps K F vs ds by simpa [Rp] using h)
    simp only [Rp]
    exact ⟨a, vs, h1, e _ _ h2, Rps.mono e h3⟩
  | .dct kvs, v, h => by
    obtain ⟨a, h1, h2⟩ := (show ∃ a, v = .ref a ∧ F a = some (.dK (kvI kvs)) by simpa [Rp] using h)
    simp only [Rp]
    exact ⟨a, h1, e _ _ h2⟩
theorem Rps.mono (e : Ex F F') : ∀ {ds : List Dt} {vs : List V}, Rps K F vs ds → Rps K F' vs ds
  | [], _, h => by simpa [Rps] using h
  | d :: ds, vs, h => by
    obtain ⟨v, r, h1, h2, h3⟩ := (show ∃ v r, vs = v :: r ∧ Rp K F v d ∧ Rps K F r ds by simpa [Rps] using h)
    simp only [Rps]
    exact ⟨v, r, h1, Rp.mono e h2, Rps.mono e h3⟩
end
theorem rp_non {v : V} : Rp K F v .non ↔ v = .non := by simp [Rp]
theorem rp_bl {v : V} {b : Bool} : Rp K F v (.bl b) ↔ v = .bl b := by simp [Rp]
theorem rp_int {v : V} {i : Int} : Rp K F v (.int i) ↔ v = .int i := by simp [Rp]
theorem rp_str {v : V} {s : Str} : Rp K F v (.str s) ↔ v = .str s := by simp [Rp]
theorem rp_adr {v : V} {a : Addr} : Rp K F v (.adr a) ↔ v = .ref a := by simp [Rp]
theorem rp_tup {v : V} {ds : List Dt} : Rp K F v (.tup ds) ↔ ∃ a vs, v = .ref a ∧ SqT K F a vs ∧ Rps K F vs ds := by simp [Rp]
theorem rp_lst {v : V} {ds : List Dt} : Rp K F v (.lst ds) ↔ ∃ a vs, v = .ref a ∧ F a = some (.lst vs) ∧ Rps K F vs ds := by simp [Rp]
theorem rp_dct {v : V} {kvs : List (Int × Int)} : Rp K F v (.dct kvs) ↔ ∃ a, v = .ref a ∧ F a = some (.dK (kvI kvs)) := by simp [Rp]
theorem rps_nil {vs : List V} : Rps K F vs [] ↔ vs = [] := by simp [Rps]
theorem rps_cons {vs : List V} {d : Dt} {ds : List Dt} : Rps K F vs (d :: ds) ↔ ∃ v r, vs = v :: r ∧ Rp K F v d ∧ Rps K F r ds := by simp [Rps]
theorem Rps.nil : Rps K F [] [] := rps_nil.mpr rfl
theorem Rps.cons {v : V} {vs : List V} {d : Dt} {ds : List Dt} (h : Rp K F v d) (hs : Rps K F vs ds) : Rps K F (v :: vs) (d :: ds) := rps_cons.mpr ⟨v, vs, rfl, h, hs⟩
theorem Rps.uncons {v : V} {vs : List V} {d : Dt} {ds : List Dt} (h : Rps K F (v :: vs) (d :: ds)) : Rp K F v d ∧ Rps K F vs ds := by
  obtain ⟨_, _, e, h1, h2⟩ := rps_cons.mp h
  cases e
  exact ⟨h1, h2⟩
theorem Rps.length : ∀ {ds : List Dt} {vs : List V}, Rps K F vs ds → vs.length = ds.length
  | [], _, h => by rw [rps_nil.mp h]; rfl
  | _ :: _, _, h => by
    obtain ⟨_, _, e, _, h2⟩ := rps_cons.mp h
    rw [e, List.length_cons, List.length_cons, Rps.length h2]
theorem Rps.get : ∀ {ds : List Dt} {vs : List V} {i : Nat} {d : Dt}, Rps K F vs ds → ds[i]? = some d → ∃ v, vs[i]? = some v ∧ Rp K F v d
  | [], _, _, _, _, e => by simp at e
  | _ :: _, _, 0, _, h, e => by
    obtain ⟨v, r, e1, h1, _⟩ := rps_cons.mp h
    simp at e
    subst e e1
    exact ⟨v, rfl, h1⟩
  | _ :: _, _, i + 1, _, h, e => by
    obtain ⟨v, r, e1, _, h2⟩ := rps_cons.mp h
    subst e1
    obtain ⟨w, a, b⟩ := Rps.get (i := i) h2 (by simpa using e)
    exact ⟨w, by simpa using a, b⟩
theorem Rps.getV : ∀ {ds : List Dt} {vs : List V} {i : Nat} {v : V}, Rps K F vs ds → vs[i]? = some v → ∃ d, ds[i]? = some d ∧ Rp K F v d := fun {ds vs i v} h e => by
  have hl := h.length
  have hi : i < vs.length := (List.getElem?_eq_some_iff.mp e).1
  obtain ⟨w, a, b⟩ := Rps.get (i := i) (d := ds[i]'(by omega)) h (by simp)
  rw [e] at a
  cases a
  exact ⟨_, by simp, b⟩
theorem Rps.append : ∀ {ds es : List Dt} {vs ws : List V}, Rps K F vs ds → Rps K F ws es → Rps K F (vs ++ ws) (ds ++ es)
  | [], _, _, _, h, k => by rw [rps_nil.mp h]; exact k
  | _ :: _, _, _, _, h, k => by
    obtain ⟨v, r, e, h1, h2⟩ := rps_cons.mp h
    subst e
    exact .cons h1 (Rps.append h2 k)
theorem Rps.drop : ∀ {ds : List Dt} {vs : List V} (n : Nat), Rps K F vs ds → Rps K F (vs.drop n) (ds.drop n)
  | _, _, 0, h => h
  | [], _, _ + 1, h => by rw [rps_nil.mp h]; exact .nil
  | _ :: _, _, n + 1, h => by
    obtain ⟨v, r, e, _, h2⟩ := rps_cons.mp h
    subst e
    exact Rps.drop n h2
theorem Rps.take : ∀ {ds : List Dt} {vs : List V} (n : Nat), Rps K F vs ds → Rps K F (vs.take n) (ds.take n)
  | _, _, 0, _ => .nil
  | [], _, _ + 1, h => by rw [rps_nil.mp h]; exact .nil
  | _ :: _, _, n + 1, h => by
    obtain ⟨v, r, e, h1, h2⟩ := rps_cons.mp h
    subst e
    exact .cons h1 (Rps.take n h2)
theorem Rps.set : ∀ {ds : List Dt} {vs : List V} {v : V} {d : Dt} (i : Nat), Rps K F vs ds → Rp K F v d → Rps K F (vs.set i v) (ds.set i d)
  | [], _, _, _, _, h, _ => by rw [rps_nil.mp h]; exact .nil
  | _ :: _, _, _, _, 0, h, k => by
    obtain ⟨v, r, e, _, h2⟩ := rps_cons.mp h
    subst e
    exact .cons k h2
  | _ :: _, _, _, _, i + 1, h, k => by
    obtain ⟨v, r, e, h1, h2⟩ := rps_cons.mp h
    subst e
    exact .cons h1 (Rps.set i h2 k)
theorem Rps.reverse : ∀ {ds : List Dt} {vs : List V}, Rps K F vs ds → Rps K F vs.reverse ds.reverse
  | [], _, h => by rw [rps_nil.mp h]; exact .nil
  | _ :: _, _, h => by
    obtain ⟨v, r, e, h1, h2⟩ := rps_cons.mp h
    subst e
    rw [List.reverse_cons, List.reverse_cons]
    exact Rps.append (Rps.reverse h2) (.cons h1 .nil)
theorem rps_ints : ∀ {ns : List Int} {vs : List V}, Rps K F vs (ns.map Dt.int) → vs = ns.map V.int
  | [], _, h => rps_nil.mp h
  | n :: ns, _, h => by
    obtain ⟨v, r, e, h1, h2⟩ := rps_cons.mp h
    rw [e, rp_int.mp h1, rps_ints h2]
    rfl
theorem rps_of_ints : ∀ ns : List Int, Rps K F (ns.map V.int) (ns.map Dt.int)
  | [] => .nil
  | _ :: ns => .cons (rp_int.mpr rfl) (rps_of_ints ns)
theorem rps_strs : ∀ {ns : List Str} {vs : List V}, Rps K F vs (ns.map Dt.str) → vs = ns.map V.str
  | [], _, h => rps_nil.mp h
  | n :: ns, _, h => by
    obtain ⟨v, r, e, h1, h2⟩ := rps_cons.mp h
    rw [e, rp_str.mp h1, rps_strs h2]
    rfl
theorem rps_bls : ∀ {ns : List Bool} {vs : List V}, Rps K F vs (ns.map Dt.bl) → vs = ns.map V.bl
  | [], _, h => rps_nil.mp h
  | n :: ns, _, h => by
    obtain ⟨v, r, e, h1, h2⟩ := rps_cons.mp h
    rw [e, rp_bl.mp h1, rps_bls h2]
    rfl
end

/-! ### states -/
structure Tb where
  tabs : List (Addr × Str)
  base : Hp
structure Fine (T : Tb) (F H : Hp) : Prop where
  sub : Ex F H
  tab : LamX.Tabs T.tabs H
  nt : ∀ a ps, F a ≠ some (.tbl ps)
  bs : Ex T.base F
/-- a list or a dict -/
def Mu (o : HO) : Prop := (∃ vs, o = .lst vs) ∨ ∃ kvs, o = .dK kvs
theorem Mu.nt {o : HO} (h : Mu o) : ∀ ps, o ≠ .tbl ps := fun ps z => by rcases h with ⟨vs, e⟩ | ⟨vs, e⟩ <;> rw [z] at e <;> cases e
/-- nothing stands there, if not a table -/
def Nm (H : Hp) (a : Addr) : Prop := ∀ u, H a = some u → ∃ ps, u = .tbl ps
theorem Nm.of {H : Hp} {a : Addr} (h : H a = none) : Nm H a := fun u e => by rw [h] at e; cases e
/-- from (F, H) to (F', H'): all but what stands at S is kept, what is newly frozen is new (or of S) -/
structure Stp (S : List Addr) (F H F' H' : Hp) : Prop where
  ff : Ex F F'
  keep : ∀ a o, a ∉ S → H a = some o → (∀ ps, o ≠ .tbl ps) → H' a = some o
  fresh : ∀ a o, a ∉ S → H a = some o → Mu o → F a = none → F' a = none
theorem Stp.refl (S : List Addr) (F H : Hp) : Stp S F H F H := ⟨Ex.refl F, fun _ _ _ h _ => h, fun _ _ _ _ _ h => h⟩
theorem Stp.trans {S S1 : List Addr} {F H F1 H1 F2 H2 : Hp} (a : Stp S F H F1 H1) (b : Stp S1 F1 H1 F2 H2) (hs : ∀ x ∈ S1, x ∈ S ∨ Nm H x) : Stp S F H F2 H2 := by
  have out : ∀ x o, x ∉ S → H x = some o → (∀ ps, o ≠ .tbl ps) → x ∉ S1 := fun x o h1 h2 n h3 => (hs x h3).elim h1 fun q => by
    obtain ⟨ps, e⟩ := q o h2
    exact n ps e
  refine ⟨a.ff.trans b.ff, fun x o hx h n => ?_, fun x o hx h n f => ?_⟩
  · exact b.keep x o (out x o hx h n) (a.keep x o hx h n) n
  · exact b.fresh x o (out x o hx h n.nt) (a.keep x o hx h n.nt) n (a.fresh x o hx h n f)
theorem Stp.trans0 {S : List Addr} {F H F1 H1 F2 H2 : Hp} (a : Stp S F H F1 H1) (b : Stp [] F1 H1 F2 H2) : Stp S F H F2 H2 := a.trans b fun _ h => by simp at h
theorem Stp.wide {S S' : List Addr} {F H F1 H1 : Hp} (a : Stp S F H F1 H1) (h : ∀ x ∈ S, x ∈ S') : Stp S' F H F1 H1 :=
  ⟨a.ff, fun x o hx => a.keep x o fun z => hx (h x z), fun x o hx => a.fresh x o fun z => hx (h x z)⟩
/-- a new object, frozen at once -/
theorem stp_new {S : List Addr} {F H : Hp} {p : Addr} {o : HO} (hp : H p = none) (e : Ex F H) : Stp S F H (upd F p o) (upd H p o) :=
  ⟨Ex.new (fresh_back e hp), fun a u _ h _ => by rw [upd_ne (ne_of_none h hp)]; exact h, fun a u _ h _ f => by
    rw [upd_ne (ne_of_none h hp)]; exact f⟩
/-- a new object that is not frozen -/
theorem stp_newM {S : List Addr} {F H : Hp} {p : Addr} {o : HO} (hp : H p = none) : Stp S F H F (upd H p o) :=
  ⟨Ex.refl F, fun a u _ h _ => by rw [upd_ne (ne_of_none h hp)]; exact h, fun a _ _ _ _ f => f⟩
theorem Fine.new {T : Tb} {F H : Hp} {p : Addr} {o : HO} (f : Fine T F H) (hp : H p = none) (ho : ∀ ps, o ≠ .tbl ps) : Fine T (upd F p o) (upd H p o) := by
  refine ⟨fun a u h => ?_, f.tab.ext fun b u h => (Ex.new hp) b u h, fun a ps h => ?_, f.bs.trans (Ex.new (fresh_back f.sub hp))⟩
  · by_cases e : a = p
    · subst e; rw [upd_same] at h ⊢; exact h
    · rw [upd_ne e] at h ⊢; exact f.sub a u h
  · by_cases e : a = p
    · subst e; rw [upd_same] at h; exact ho ps (Option.some.inj h)
    · rw [upd_ne e] at h; exact f.nt a ps h
theorem Fine.newM {T : Tb} {F H : Hp} {p : Addr} {o : HO} (f : Fine T F H) (hp : H p = none) : Fine T F (upd H p o) :=
  ⟨f.sub.trans (Ex.new hp), f.tab.ext fun b u h => (Ex.new hp) b u h, f.nt, f.bs⟩

/-! ### slots -/
abbrev Rho := List (Option Dt)
structure Slots (K : PySem.W.Frag) (F : Hp) (σ : L2.St) (ρ : Rho) : Prop where
  len : σ.length = ρ.length
  at_ : ∀ (i : Nat) (d : Dt), ρ[i]? = some (some d) → ∃ v, σ[i]? = some (some v) ∧ Rp K F v d
theorem Slots.mono {K : PySem.W.Frag} {F F' : Hp} {σ : L2.St} {ρ : Rho} (s : Slots K F σ ρ) (e : Ex F F') : Slots K F' σ ρ :=
  ⟨s.len, fun i d h => let ⟨v, a, b⟩ := s.at_ i d h; ⟨v, a, b.mono e⟩⟩
theorem Slots.set {K : PySem.W.Frag} {F : Hp} {σ : L2.St} {ρ : Rho} {i : Nat} {v : V} {d : Dt} (s : Slots K F σ ρ) (r : Rp K F v d) : Slots K F (σ.set i (some v)) (ρ.set i (some d)) := by
  refine ⟨by rw [List.length_set, List.length_set, s.len], fun j e h => ?_⟩
  by_cases hij : i = j
  · subst hij
    have hl : i < ρ.length := by
      have := (List.getElem?_eq_some_iff.mp h).1
      rwa [List.length_set] at this
    rw [List.getElem?_set_self hl] at h
    cases h
    exact ⟨v, List.getElem?_set_self (by rw [s.len]; exact hl), r⟩
  · rw [List.getElem?_set_ne hij] at h ⊢
    exact s.at_ j e h
/-- slots that are not told -/
theorem Slots.weak {K : PySem.W.Frag} {F : Hp} {σ : L2.St} {ρ ρ' : Rho} (s : Slots K F σ ρ) (hl : ρ'.length = ρ.length) (h : ∀ (i : Nat) (d : Dt), ρ'[i]? = some (some d) → ρ[i]? = some (some d)) : Slots K F σ ρ' :=
  ⟨s.len.trans hl.symm, fun i d e => s.at_ i d (h i d e)⟩
def wipeR (ρ : Rho) : List Nat → Rho
  | [] => ρ
  | v :: vs => (wipeR ρ vs).set v none
theorem Slots.setN {K : PySem.W.Frag} {F : Hp} {σ : L2.St} {ρ : Rho} {i : Nat} (s : Slots K F σ ρ) : Slots K F (σ.set i none) (ρ.set i none) := by
  refine ⟨by rw [List.length_set, List.length_set, s.len], fun j e h => ?_⟩
  by_cases hij : i = j
  · subst hij
    have hl : i < ρ.length := by
      have := (List.getElem?_eq_some_iff.mp h).1
      rwa [List.length_set] at this
    rw [List.getElem?_set_self hl] at h
    cases h
  · rw [List.getElem?_set_ne hij] at h ⊢
    exact s.at_ j e h
theorem Slots.wipe {K : PySem.W.Frag} {F : Hp} {σ : L2.St} {ρ : Rho} (s : Slots K F σ ρ) : ∀ vs : List Nat, Slots K F (wipe σ vs) (wipeR ρ vs)
  | [] => s
  | v :: vs => (s.wipe vs).setN
theorem slots_start {K : PySem.W.Frag} {F : Hp} {N : List Str} {vs : List V} {ds : List Dt} (h : Rps K F vs ds) (hl : ds.length ≤ N.length) : Slots K F (L2.start N vs) (ds.map some ++ List.replicate (N.length - ds.length) none) := by
  have e := h.length
  refine ⟨by unfold L2.start; rw [List.length_append, List.length_append, List.length_map, List.length_map, List.length_replicate, List.length_replicate, e], fun i d hi => ?_⟩
  unfold L2.start
  by_cases hlt : i < ds.length
  · rw [List.getElem?_append_left (by simpa using hlt), List.getElem?_map] at hi
    cases q : ds[i]? with
    | none => rw [q] at hi; cases hi
    | some d' =>
      rw [q] at hi
      cases hi
      obtain ⟨v, a, b⟩ := h.get q
      exact ⟨v, by rw [List.getElem?_append_left (by rw [List.length_map, e]; exact hlt), List.getElem?_map, a]; rfl, b⟩
  · rw [List.getElem?_append_right (by simpa using hlt), List.getElem?_replicate] at hi
    split at hi <;> cases hi
def startR (N : List Str) (ds : List Dt) : Rho := ds.map some ++ List.replicate (N.length - ds.length) none

/-! ### wishes -/
def wE (X : Cx) (e : Expr) (σ : L2.St) (H : Hp) (Q : VK) : Prop := ∀ (pins : List (Addr × Obj)) (s : Shared), Inv X pins σ H s → wpAny (model X.prog X.w) X.A (eval e X.env) (EP X pins σ Q) X.xe s
def wT (X : Cx) (e : Expr) (σ : L2.St) (H : Hp) (Q : Bool → Hp → Prop) : Prop := ∀ (pins : List (Addr × Obj)) (s : Shared), Inv X pins σ H s → wpAny (model X.prog X.w) X.A (isTrue e X.env (eval e X.env)) (TP X pins σ Q) X.xe s
def wW (X : Cx) (e : Expr) (σ : L2.St) (H : Hp) (Q : Bool → Hp → Prop) : Prop := ∀ (whole : Sem Value) (pins : List (Addr × Obj)) (s : Shared), Inv X pins σ H s → wpAny (model X.prog X.w) X.A (isTrue e X.env whole) (TP X pins σ Q) X.xe s
def wA (X : Cx) (es : List Expr) (σ : L2.St) (H : Hp) (Q : List V → Hp → Prop) : Prop := ∀ (pos : Pos) (pins : List (Addr × Obj)) (s : Shared), Inv X pins σ H s → wpAny (model X.prog X.w) X.A (spliced (backTo pos (starEach es X.env))) (AP X pins σ Q) X.xe s
def wS (X : Cx) (st : Stmt) (D : Ends) (σ : L2.St) (H : Hp) : Prop := ∀ (pins : List (Addr × Obj)) (s : Shared), Inv X pins σ H s → wpAny (model X.prog X.w) X.A (exec st X.env) (SP X pins D) X.xe s
def wSs (X : Cx) (st : List Stmt) (D : Ends) (σ : L2.St) (H : Hp) : Prop := ∀ (pins : List (Addr × Obj)) (s : Shared), Inv X pins σ H s → wpAny (model X.prog X.w) X.A (execs st X.env) (SP X pins D) X.xe s
section
variable {X : Cx} {e : Expr} {es : List Expr} {st : Stmt} {sts : List Stmt}
theorem pe_w : PE X e (wE X e) := ⟨fun pins s σ H Q I h => h pins s I⟩
theorem pt_w : PT X e (wT X e) := ⟨fun pins s σ H Q I h => h pins s I⟩
theorem pw_w : PW X e (wW X e) := ⟨fun wh pins s σ H Q I h => h wh pins s I⟩
theorem pa_w : PA X es (wA X es) := ⟨fun pos pins s σ H Q I h => h pos pins s I⟩
theorem ps_w : PS X st (wS X st) := ⟨fun pins s σ H D I h => h pins s I⟩
theorem pss_w : PSs X sts (wSs X sts) := ⟨fun pins s σ H D I h => h pins s I⟩
theorem PE_w {t : TE} {σ : L2.St} {H : Hp} {Q : VK} (h : PE X e t) (q : t σ H Q) : wE X e σ H Q := fun pins s I => h.run pins s σ H Q I q
theorem PT_w {t : TT} {σ : L2.St} {H : Hp} {Q : Bool → Hp → Prop} (h : PT X e t) (q : t σ H Q) : wT X e σ H Q := fun pins s I => h.run pins s σ H Q I q
theorem PW_w {t : TT} {σ : L2.St} {H : Hp} {Q : Bool → Hp → Prop} (h : PW X e t) (q : t σ H Q) : wW X e σ H Q := fun wh pins s I => h.run wh pins s σ H Q I q
theorem PA_w {t : TA} {σ : L2.St} {H : Hp} {Q : List V → Hp → Prop} (h : PA X es t) (q : t σ H Q) : wA X es σ H Q := fun pos pins s I => h.run pos pins s σ H Q I q
theorem PS_w {t : TS} {σ : L2.St} {H : Hp} {D : Ends} (h : PS X st t) (q : t D σ H) : wS X st D σ H := fun pins s I => h.run pins s σ H D I q
theorem PSs_w {t : TS} {σ : L2.St} {H : Hp} {D : Ends} (h : PSs X sts t) (q : t D σ H) : wSs X sts D σ H := fun pins s I => h.run pins s σ H D I q
theorem wE_mono {σ : L2.St} {H : Hp} {Q Q' : VK} (h : wE X e σ H Q) (k : ∀ v H', Q v H' → Q' v H') : wE X e σ H Q' := fun pins s I =>
  thn (h pins s I) fun _ _ ⟨v, H', I', r, q⟩ => ⟨v, H', I', r, k v H' q⟩
end

/-! ### what may change: memory -/
inductive MO where
  | lst (ds : List Dt)
  | dct (kvs : List (Int × Int))
  | pen (k : Nat)
abbrev Mem := List (Addr × MO)
/-- a pen of at most k draws so far -/
def PenAt (K : PySem.W.Frag) (F H : Hp) (p : Addr) (k : Nat) : Prop := ∃ (l : Addr) (cells : List Int) (at_ dig : Int), H p = some (.lst [.ref l, .int at_, .int dig]) ∧ F l = some (.lst (cells.map V.int)) ∧ cells.length ≤ 63 ∧ 0 ≤ at_ ∧ at_ ≤ k ∧ 0 ≤ dig
def ObjIs (K : PySem.W.Frag) (F H : Hp) (q : Addr) : MO → Prop
  | .lst ds => ∃ vs, H q = some (.lst vs) ∧ Rps K F vs ds
  | .dct kvs => H q = some (.dK (kvI kvs))
  | .pen k => PenAt K F H q k
structure MemOk (K : PySem.W.Frag) (F H : Hp) (M : Mem) : Prop where
  nd : (M.map (·.1)).Nodup
  out : ∀ p ∈ M, F p.1 = none
  at_ : ∀ p ∈ M, ObjIs K F H p.1 p.2
abbrev dom (M : Mem) : List Addr := M.map (·.1)
theorem ObjIs.stands {K : PySem.W.Frag} {F H : Hp} {q : Addr} : ∀ {o : MO}, ObjIs K F H q o → ∃ u, H q = some u ∧ Mu u
  | .lst _, ⟨vs, h, _⟩ => ⟨_, h, .inl ⟨_, rfl⟩⟩
  | .dct _, h => ⟨_, h, .inr ⟨_, rfl⟩⟩
  | .pen _, ⟨_, _, _, _, h, _⟩ => ⟨_, h, .inl ⟨_, rfl⟩⟩
/-- the object stands as it was, more is frozen -/
theorem ObjIs.keep {K : PySem.W.Frag} {F H F' H' : Hp} {q : Addr} (e : Ex F F') (k : ∀ u, H q = some u → H' q = some u) : ∀ {o : MO}, ObjIs K F H q o → ObjIs K F' H' q o
  | .lst _, ⟨vs, h, r⟩ => ⟨vs, k _ h, r.mono e⟩
  | .dct _, h => k _ h
  | .pen _, ⟨l, cells, a, d, h, hl, r⟩ => ⟨l, cells, a, d, k _ h, e _ _ hl, r⟩
/-- a step that leaves all of it -/
theorem MemOk.step {K : PySem.W.Frag} {F H F' H' : Hp} {M : Mem} (m : MemOk K F H M) (s : Stp [] F H F' H') : MemOk K F' H' M := by
  refine ⟨m.nd, fun p hp => ?_, fun p hp => ?_⟩
  · obtain ⟨u, hu, mu⟩ := (m.at_ p hp : ObjIs _ _ _ _ _).stands
    exact s.fresh p.1 u (by simp) hu mu (m.out p hp)
  · obtain ⟨u, hu, nt⟩ := (m.at_ p hp : ObjIs _ _ _ _ _).stands
    refine (m.at_ p hp : ObjIs _ _ _ _ _).keep s.ff fun u' e => ?_
    rw [hu] at e
    cases e
    exact s.keep p.1 u (by simp) hu nt.nt
/-- a state that is reached -/
structure Reach (T : Tb) (K : PySem.W.Frag) (M : Mem) (F H : Hp) (M' : Mem) (F' H' : Hp) : Prop where
  stp : Stp (dom M) F H F' H'
  fine : Fine T F' H'
  mem : MemOk K F' H' M'
  dm : ∀ a ∈ dom M', a ∈ dom M ∨ Nm H a
theorem Reach.refl {T : Tb} {K : PySem.W.Frag} {M : Mem} {F H : Hp} (f : Fine T F H) (m : MemOk K F H M) : Reach T K M F H M F H := ⟨Stp.refl _ _ _, f, m, fun _ h => .inl h⟩
theorem Reach.trans {T : Tb} {K : PySem.W.Frag} {M M1 M2 : Mem} {F H F1 H1 F2 H2 : Hp} (a : Reach T K M F H M1 F1 H1) (b : Reach T K M1 F1 H1 M2 F2 H2) : Reach T K M F H M2 F2 H2 := by
  refine ⟨a.stp.trans b.stp a.dm, b.fine, b.mem, fun x hx => ?_⟩
  rcases b.dm x hx with h | h
  · exact a.dm x h
  · by_cases hM : x ∈ dom M
    · exact .inl hM
    · refine .inr fun u hu => ?_
      by_cases n : ∀ ps, u ≠ .tbl ps
      · exact h u (a.stp.keep x u hM hu n)
      · obtain ⟨ps, e⟩ := Classical.not_forall.mp n
        exact ⟨ps, Classical.not_not.mp e⟩
/-- a pure step -/
theorem Reach.pure {T : Tb} {K : PySem.W.Frag} {M : Mem} {F H F1 H1 : Hp} (m : MemOk K F H M) (f : Fine T F1 H1) (s : Stp [] F H F1 H1) : Reach T K M F H M F1 H1 := ⟨s.wide fun _ h => by simp at h, f, m.step s, fun _ h => .inl h⟩
/-! ### written arguments, by kinds -/
section
variable {env : Env} {es : List Expr} {a b f : Expr} {p : Pos}
def notStar : Expr → Bool
  | .Starred _ _ => false
  | _ => true
theorem st_any {e : Expr} (h : notStar e = true) : starEach (e :: es) env = (false, eval e env) :: starEach es env := by
  cases e <;> first | rfl | exact absurd h (by simp [notStar])
end
end BL
set_option maxHeartbeats 4000000
/-! Foundation, part 2: expressions over data. -/
namespace BL
open PySem PySem.Spec PyProof.Rows L2 Evl

section
variable (T : Tb) (X : Cx)
/-- e gives d wherever the slots stand for ρ; what is known stays -/
def ED (e : Expr) (ρ : Rho) (d : Dt) : Prop := ∀ (F H : Hp) (σ : L2.St) (Q : VK), Fine T F H → Slots X.K F σ ρ → (∀ v F' H', Fine T F' H' → Stp [] F H F' H' → Rp X.K F' v d → Q v H') → wE X e σ H Q
def TD (e : Expr) (ρ : Rho) (b : Bool) : Prop := ∀ (F H : Hp) (σ : L2.St) (Q : Bool → Hp → Prop), Fine T F H → Slots X.K F σ ρ → (∀ F' H', Fine T F' H' → Stp [] F H F' H' → Q b H') → wT X e σ H Q
def WD (e : Expr) (ρ : Rho) (b : Bool) : Prop := ∀ (F H : Hp) (σ : L2.St) (Q : Bool → Hp → Prop), Fine T F H → Slots X.K F σ ρ → (∀ F' H', Fine T F' H' → Stp [] F H F' H' → Q b H') → wW X e σ H Q
def AD (es : List Expr) (ρ : Rho) (ds : List Dt) : Prop := ∀ (F H : Hp) (σ : L2.St) (Q : List V → Hp → Prop), Fine T F H → Slots X.K F σ ρ → (∀ vs F' H', Fine T F' H' → Stp [] F H F' H' → Rps X.K F' vs ds → Q vs H') → wA X es σ H Q
/-- a two-place operation by values, by data -/
def OD (K : PySem.W.Frag) (r : R2) (dx dy d : Dt) : Prop := ∀ (F H : Hp) (x y : V) (Q : VK), Fine T F H → Rp K F x dx → Rp K F y dy → (∀ v F' H', Fine T F' H' → Stp [] F H F' H' → Rp K F' v d → Q v H') → r x y H Q
def CD (K : PySem.W.Frag) (r : List V → Hp → VK → Prop) (ds : List Dt) (d : Dt) : Prop := ∀ (F H : Hp) (vs : List V) (Q : VK), Fine T F H → Rps K F vs ds → (∀ v F' H', Fine T F' H' → Stp [] F H F' H' → Rp K F' v d → Q v H') → r vs H Q
end

section
variable {T : Tb} {X : Cx} {ρ : Rho} {a b c e : Expr} {es : List Expr} {da db dc d : Dt} {ds : List Dt} {pos : Pos}

theorem ED.is {d' : Dt} (h : ED T X e ρ d) (q : d = d') : ED T X e ρ d' := q ▸ h
theorem TD.is {x y : Bool} (h : TD T X e ρ x) (q : x = y) : TD T X e ρ y := q ▸ h

/-! ### names, constants -/
theorem ed_var {i : Nat} {x : Str} (hs : ρ[i]? = some (some d)) (hN : X.N[i]? = some x) (hv : Vis X.env.scope x) (hd : (x == ("__debug__" : Str)) = false := by decide) (hcd : (x == ("__classdict__" : Str)) = false := by decide) : ED T X (.Name x pos) ρ d := by
  intro F H σ Q f s k
  obtain ⟨v, e1, r⟩ := s.at_ i d hs
  exact PE_w (pe_var hN hv hd hcd) ⟨v, e1, k v F H f (Stp.refl _ _ _) r⟩
theorem ed_int {i : Int} {j} : ED T X (.Constant (.int i) j pos) ρ (.int i) := fun F H σ Q f s k => PE_w pe_int (k (.int i) F H f (Stp.refl _ _ _) (rp_int.mpr rfl))
theorem ed_bl {i : Bool} {j} : ED T X (.Constant (.bool i) j pos) ρ (.bl i) := fun F H σ Q f s k => PE_w pe_bl (k (.bl i) F H f (Stp.refl _ _ _) (rp_bl.mpr rfl))
theorem ed_non {j} : ED T X (.Constant .none j pos) ρ .non := fun F H σ Q f s k => PE_w pe_non (k .non F H f (Stp.refl _ _ _) (rp_non.mpr rfl))
theorem ed_str {x : Str} {j} : ED T X (.Constant (.str x) j pos) ρ (.str x) := fun F H σ Q f s k => PE_w pe_str (k (.str x) F H f (Stp.refl _ _ _) (rp_str.mpr rfl))
/-- a constant of the module -/
structure Glo (K : PySem.W.Frag) (mg : Str → Option Value) (x : Str) (d : Dt) : Prop where
  ex : ∃ v u, mg x = some u ∧ RelV v u ∧ ∀ F, Rp K F v d
theorem ed_glo {x : Str} (h : Glo X.K X.mg x d) (hg : Gl X x) (hd : (x == ("__debug__" : Str)) = false := by decide) : ED T X (.Name x pos) ρ d := by
  intro F H σ Q f s k
  obtain ⟨v, u, h1, h2, h3⟩ := h.ex
  exact PE_w (pe_glob hg h1 h2 hd) (k v F H f (Stp.refl _ _ _) (h3 F))

/-! ### operations -/
theorem ed_op {op : Operator} {r : R2} (ho : OpR X (binaryOp op) r) (h : OD T X.K r da db d) (ha : ED T X a ρ da) (hb : ED T X b ρ db) : ED T X (.BinOp a op b pos) ρ d := fun F H σ Q f s k =>
  PE_w (pe_op ho pe_w pe_w) (ha F H σ _ f s fun x F1 H1 f1 s1 r1 => hb F1 H1 σ _ f1 (s.mono s1.ff) fun y F2 H2 f2 s2 r2 => h F2 H2 x y Q f2 (r1.mono s2.ff) r2 fun v F3 H3 f3 s3 r3 => k v F3 H3 f3 ((s1.trans0 s2).trans0 s3) r3)
theorem od_I0 {K : PySem.W.Frag} {g : Int → Int → V} {i j : Int} (h : ∀ F, Rp K F (g i j) d) : OD T K (rI0 g) (.int i) (.int j) d := fun F H x y Q f r1 r2 k =>
  ⟨i, j, rp_int.mp r1, rp_int.mp r2, k _ F H f (Stp.refl _ _ _) (h F)⟩
theorem od_I {K : PySem.W.Frag} {C : Int → Int → Prop} {g : Int → Int → V} {i j : Int} (hc : C i j) (h : ∀ F, Rp K F (g i j) d) : OD T K (rI C g) (.int i) (.int j) d := fun F H x y Q f r1 r2 k =>
  ⟨i, j, rp_int.mp r1, rp_int.mp r2, hc, k _ F H f (Stp.refl _ _ _) (h F)⟩
variable {i j : Int}
theorem ed_add (ha : ED T X a ρ (.int i)) (hb : ED T X b ρ (.int j)) : ED T X (.BinOp a .Add b pos) ρ (.int (i + j)) := ed_op op_add (od_I0 fun F => rp_int.mpr rfl) ha hb
theorem ed_sub (ha : ED T X a ρ (.int i)) (hb : ED T X b ρ (.int j)) : ED T X (.BinOp a .Sub b pos) ρ (.int (i - j)) := ed_op op_sub (od_I0 fun F => rp_int.mpr rfl) ha hb
/-- of at most n bits -/
def Bt (n : Nat) (i : Int) : Prop := i.natAbs < 2 ^ n
theorem ed_mul {m n : Nat} (ha : ED T X a ρ (.int i)) (hb : ED T X b ρ (.int j)) (h1 : Bt m i) (h2 : Bt n j) (h : m + n ≤ 900000 := by omega) : ED T X (.BinOp a .Mult b pos) ρ (.int (i * j)) :=
  ed_op op_mulW (od_I (wide_mul (a := m + 1) (b := n + 1) (Nat.lt_of_lt_of_le h1 (Nat.pow_le_pow_right (by decide) (by omega))) (Nat.lt_of_lt_of_le h2 (Nat.pow_le_pow_right (by decide) (by omega))) (by omega) (by omega) (by omega)) fun F => rp_int.mpr rfl) ha hb
theorem ed_fdiv {n : Nat} (ha : ED T X a ρ (.int i)) (hb : ED T X b ρ (.int j)) (h0 : 0 < j) (h2 : Bt n j) (h : n ≤ 8000 := by omega) : ED T X (.BinOp a .FloorDiv b pos) ρ (.int (i / j)) :=
  ed_op op_fdivW (od_I (wide_div (b := n + 1) h0 (Nat.lt_of_lt_of_le h2 (Nat.pow_le_pow_right (by decide) (by omega))) (by omega) (by omega)) fun F => rp_int.mpr rfl) ha hb
theorem ed_mod (ha : ED T X a ρ (.int i)) (hb : ED T X b ρ (.int j)) (h0 : 0 < j) : ED T X (.BinOp a .Mod b pos) ρ (.int (i % j)) := ed_op op_mod (od_I h0 fun F => rp_int.mpr rfl) ha hb
theorem ed_pow (ha : ED T X a ρ (.int i)) (hb : ED T X b ρ (.int j)) (h : CPow i j) : ED T X (.BinOp a .Pow b pos) ρ (.int (i ^ j.toNat)) := ed_op op_pow (od_I h fun F => rp_int.mpr rfl) ha hb
theorem ed_neg (ha : ED T X a ρ (.int i)) : ED T X (.UnaryOp .USub a pos) ρ (.int (-i)) := fun F H σ Q f s k =>
  PE_w (pe_un un_neg pe_w) (ha F H σ _ f s fun x F1 H1 f1 s1 r1 => ⟨i, rp_int.mp r1, k _ F1 H1 f1 s1 (rp_int.mpr rfl)⟩)
theorem ed_adds {x y : Str} (ha : ED T X a ρ (.str x)) (hb : ED T X b ρ (.str y)) (h : x.length + y.length ≤ sizeLine) : ED T X (.BinOp a .Add b pos) ρ (.str (x ++ y)) :=
  ed_op op_add_str (fun F H _ _ Q f r1 r2 k => ⟨x, y, rp_str.mp r1, rp_str.mp r2, h, k _ F H f (Stp.refl _ _ _) (rp_str.mpr rfl)⟩) ha hb
theorem cat_new {K : PySem.W.Frag} {F H : Hp} {p : Addr} {vs : List V} {ds : List Dt} (hp : H p = none) (f : Fine T F H) (r : Rps K F vs ds) : Fine T (upd F p (.tup vs)) (upd H p (.tup vs)) ∧ Stp [] F H (upd F p (.tup vs)) (upd H p (.tup vs)) ∧ Rp K (upd F p (.tup vs)) (.ref p) (.tup ds) := by
  have s := stp_new (S := []) (o := .tup vs) hp f.sub
  exact ⟨f.new hp (fun _ z => nomatch z), s, rp_tup.mpr ⟨p, vs, rfl, .inl (.inl upd_same), r.mono s.ff⟩⟩
theorem lst_new {K : PySem.W.Frag} {F H : Hp} {p : Addr} {vs : List V} {ds : List Dt} (hp : H p = none) (f : Fine T F H) (r : Rps K F vs ds) : Fine T (upd F p (.lst vs)) (upd H p (.lst vs)) ∧ Stp [] F H (upd F p (.lst vs)) (upd H p (.lst vs)) ∧ Rp K (upd F p (.lst vs)) (.ref p) (.lst ds) := by
  have s := stp_new (S := []) (o := .lst vs) hp f.sub
  exact ⟨f.new hp (fun _ z => nomatch z), s, rp_lst.mpr ⟨p, vs, rfl, upd_same, r.mono s.ff⟩⟩
/-- t + u, neither empty -/
theorem ed_catT {xs ys : List Dt} (ha : ED T X a ρ (.tup xs)) (hb : ED T X b ρ (.tup ys)) (hx : xs ≠ []) (hy : ys ≠ []) (h : xs.length + ys.length ≤ sizeLine) : ED T X (.BinOp a .Add b pos) ρ (.tup (xs ++ ys)) :=
  ed_op op_catT (fun F H x y Q f r1 r2 k => by
    obtain ⟨p, us, e1, s1, q1⟩ := rp_tup.mp r1
    obtain ⟨q, ws, e2, s2, q2⟩ := rp_tup.mp r2
    have l1 := q1.length
    have l2 := q2.length
    refine ⟨p, q, us, ws, e1, e2, ex_t f.sub s1, ex_t f.sub s2, fun z => ?_, by omega, fun z => ?_, fun _ n hn => ?_⟩
    · subst z
      exact hx (List.length_eq_zero_iff.mp l1.symm)
    · subst z
      exact absurd (List.length_eq_zero_iff.mp l2.symm) hy
    · obtain ⟨f', s', r'⟩ := cat_new hn f (q1.append q2)
      exact k _ _ _ f' s' r') ha hb
theorem ed_catL {xs ys : List Dt} (ha : ED T X a ρ (.lst xs)) (hb : ED T X b ρ (.lst ys)) (h : xs.length + ys.length ≤ sizeLine) : ED T X (.BinOp a .Add b pos) ρ (.lst (xs ++ ys)) :=
  ed_op op_cat (fun F H x y Q f r1 r2 k => by
    obtain ⟨p, us, e1, s1, q1⟩ := rp_lst.mp r1
    obtain ⟨q, ws, e2, s2, q2⟩ := rp_lst.mp r2
    have l1 := q1.length
    have l2 := q2.length
    refine ⟨p, q, us, ws, e1, e2, f.sub _ _ s1, f.sub _ _ s2, by omega, fun n hn => ?_⟩
    obtain ⟨f', s', r'⟩ := lst_new hn f (q1.append q2)
    exact k _ _ _ f' s' r') ha hb

/-! ### displays, arguments -/
theorem ad_nil : AD T X [] ρ [] := fun F H σ Q f s k => PA_w pa_nil (k [] F H f (Stp.refl _ _ _) .nil)
theorem ad_cons (h : ED T X e ρ d) (hs : AD T X es ρ ds) (hst : starEach (e :: es) X.env = (false, eval e X.env) :: starEach es X.env := by exact st_any rfl) : AD T X (e :: es) ρ (d :: ds) := fun F H σ Q f s k =>
  PA_w (pa_cons pe_w pa_w hst) (h F H σ _ f s fun x F1 H1 f1 s1 r1 => hs F1 H1 σ _ f1 (s.mono s1.ff) fun xs F2 H2 f2 s2 r2 => k _ F2 H2 f2 (s1.trans0 s2) (.cons (r1.mono s2.ff) r2))
theorem ed_tup {x1} (h : AD T X es ρ ds) (hl : ds.length ≤ sizeLine := by exact Nat.le_of_ble_eq_true rfl) : ED T X (.Tuple es x1 pos) ρ (.tup ds) := fun F H σ Q f s k =>
  PE_w (pe_tup pa_w) (h F H σ _ f s fun xs F1 H1 f1 s1 r1 => ⟨by rw [r1.length]; exact hl, fun p hp => by
    obtain ⟨f', s', r'⟩ := cat_new hp f1 r1
    exact k _ _ _ f' (s1.trans0 s') r'⟩)
theorem ed_lst (h : AD T X es ρ ds) (hl : ds.length ≤ sizeLine := by exact Nat.le_of_ble_eq_true rfl) : ED T X (.List es pos) ρ (.lst ds) := fun F H σ Q f s k =>
  PE_w (pe_lst pa_w) (h F H σ _ f s fun xs F1 H1 f1 s1 r1 => ⟨by rw [r1.length]; exact hl, fun p hp => by
    obtain ⟨f', s', r'⟩ := lst_new hp f1 r1
    exact k _ _ _ f' (s1.trans0 s') r'⟩)

/-! ### subscripts, slices -/
theorem atI_rps {K : PySem.W.Frag} {F : Hp} {vs : List V} {ds : List Dt} {i : Int} {d : Dt} (r : Rps K F vs ds) (h : atI ds i = some d) : ∃ v, atI vs i = some v ∧ Rp K F v d := by
  unfold atI at h ⊢
  rw [r.length]
  cases q : ixN ds.length i with
  | none => rw [q] at h; cases h
  | some j =>
    rw [q] at h
    exact r.get h
theorem ed_ixT (ha : ED T X a ρ (.tup ds)) (hb : ED T X b ρ (.int i)) (h : atI ds i = some d) (hp : PlainIx b := by intro _ _; rfl) : ED T X (.Subscript a b pos) ρ d := fun F H σ Q f s k =>
  PE_w (pe_ix ix_tup pe_w pe_w hp) (ha F H σ _ f s fun x F1 H1 f1 s1 r1 => hb F1 H1 σ _ f1 (s.mono s1.ff) fun y F2 H2 f2 s2 r2 => by
    obtain ⟨p, us, e1, q1, z1⟩ := rp_tup.mp (r1.mono s2.ff)
    obtain ⟨v, hv, rv⟩ := atI_rps z1 h
    exact ⟨p, us, i, v, e1, rp_int.mp r2, ex_t f2.sub q1, hv, k v F2 H2 f2 (s1.trans0 s2) rv⟩)
theorem ed_ixL (ha : ED T X a ρ (.lst ds)) (hb : ED T X b ρ (.int i)) (h : atI ds i = some d) (hp : PlainIx b := by intro _ _; rfl) : ED T X (.Subscript a b pos) ρ d := fun F H σ Q f s k =>
  PE_w (pe_ix ix_list pe_w pe_w hp) (ha F H σ _ f s fun x F1 H1 f1 s1 r1 => hb F1 H1 σ _ f1 (s.mono s1.ff) fun y F2 H2 f2 s2 r2 => by
    obtain ⟨p, us, e1, q1, z1⟩ := rp_lst.mp (r1.mono s2.ff)
    obtain ⟨v, hv, rv⟩ := atI_rps z1 h
    exact ⟨p, us, i, v, e1, rp_int.mp r2, SqL.of (f2.sub _ _ q1), hv, k v F2 H2 f2 (s1.trans0 s2) rv⟩)
theorem ed_ixS {w : Str} {c : Nat} (ha : ED T X a ρ (.str w)) (hb : ED T X b ρ (.int i)) (hw : w.length ≤ sizeLine) (h : atI w.cps.toList i = some c) (hp : PlainIx b := by intro _ _; rfl) : ED T X (.Subscript a b pos) ρ (.str ⟨#[c]⟩) := fun F H σ Q f s k =>
  PE_w (pe_ix ix_str pe_w pe_w hp) (ha F H σ _ f s fun x F1 H1 f1 s1 r1 => hb F1 H1 σ _ f1 (s.mono s1.ff) fun y F2 H2 f2 s2 r2 =>
    ⟨w, i, c, rp_str.mp r1, rp_int.mp r2, hw, h, k _ F2 H2 f2 (s1.trans0 s2) (rp_str.mpr rfl)⟩)
/-- parts of a slice -/
def wO (X : Cx) (eo : Option Expr) (σ : L2.St) (H : Hp) (Q : Option Int → Hp → Prop) : Prop := ∃ t, PO X eo t ∧ t σ H Q
theorem po_w {eo : Option Expr} : PO X eo (wO X eo) := ⟨fun pins s σ H Q I h => by
  obtain ⟨t, h1, h2⟩ := h
  exact h1.run pins s σ H Q I h2⟩
def OPD (T : Tb) (X : Cx) (eo : Option Expr) (ρ : Rho) (o : Option Int) : Prop := ∀ (F H : Hp) (σ : L2.St) (Q : Option Int → Hp → Prop), Fine T F H → Slots X.K F σ ρ → (∀ F' H', Fine T F' H' → Stp [] F H F' H' → Q o H') → wO X eo σ H Q
theorem od_none : OPD T X none ρ none := fun F H σ Q f s k => ⟨_, po_none, k F H f (Stp.refl _ _ _)⟩
theorem od_some (h : ED T X e ρ (.int i)) : OPD T X (some e) ρ (some i) := fun F H σ Q f s k => ⟨_, po_some pe_w, h F H σ _ f s fun v F1 H1 f1 s1 r1 => ⟨i, rp_int.mp r1, k F1 H1 f1 s1⟩⟩
def cutD (xs : List Dt) (lo hi : Option Int) : List Dt := (xs.drop (HT.sIx xs.length 0 lo)).take (HT.sIx xs.length xs.length hi - HT.sIx xs.length 0 lo)
theorem rps_cut {K : PySem.W.Frag} {F : Hp} {vs : List V} {ds : List Dt} (lo hi : Option Int) (r : Rps K F vs ds) : Rps K F (cutV vs lo hi) (cutD ds lo hi) := by
  unfold cutV cutD
  rw [r.length]
  exact (r.drop _).take _
theorem ed_slT {lo hi : Option Expr} {l h : Option Int} {p2 : Pos} (ha : ED T X a ρ (.tup ds)) (hl : OPD T X lo ρ l) (hh : OPD T X hi ρ h) (hw : ¬ (HT.sIx ds.length 0 l = 0 ∧ HT.sIx ds.length ds.length h = ds.length)) : ED T X (.Subscript a (.Slice lo hi none p2) pos) ρ (.tup (cutD ds l h)) := fun F H σ Q f s k =>
  PE_w (pe_slice sl_tup pe_w po_w po_w) (ha F H σ _ f s fun x F1 H1 f1 s1 r1 => hl F1 H1 σ _ f1 (s.mono s1.ff) fun F2 H2 f2 s2 => hh F2 H2 σ _ f2 (s.mono (s1.ff.trans s2.ff)) fun F3 H3 f3 s3 => by
    obtain ⟨p, us, e1, q1, z1⟩ := rp_tup.mp (r1.mono (s2.ff.trans s3.ff))
    refine ⟨p, us, e1, ex_t f3.sub q1, by rw [z1.length]; exact hw, fun n hn => ?_⟩
    obtain ⟨f', s', r'⟩ := cat_new hn f3 (rps_cut l h z1)
    exact k _ _ _ f' (((s1.trans0 s2).trans0 s3).trans0 s') r')
theorem ed_slL {lo hi : Option Expr} {l h : Option Int} {p2 : Pos} (ha : ED T X a ρ (.lst ds)) (hl : OPD T X lo ρ l) (hh : OPD T X hi ρ h) : ED T X (.Subscript a (.Slice lo hi none p2) pos) ρ (.lst (cutD ds l h)) := fun F H σ Q f s k =>
  PE_w (pe_slice sl_list pe_w po_w po_w) (ha F H σ _ f s fun x F1 H1 f1 s1 r1 => hl F1 H1 σ _ f1 (s.mono s1.ff) fun F2 H2 f2 s2 => hh F2 H2 σ _ f2 (s.mono (s1.ff.trans s2.ff)) fun F3 H3 f3 s3 => by
    obtain ⟨p, us, e1, q1, z1⟩ := rp_lst.mp (r1.mono (s2.ff.trans s3.ff))
    refine ⟨p, us, e1, SqL.of (f3.sub _ _ q1), fun n hn => ?_⟩
    obtain ⟨f', s', r'⟩ := lst_new hn f3 (rps_cut l h z1)
    exact k _ _ _ f' (((s1.trans0 s2).trans0 s3).trans0 s') r')

/-! ### comparisons -/
theorem ed_cmp {op : CmpOp} {r : R2} (ho : OpR X (compareOp op) r) (h : OD T X.K r da db d) (ha : ED T X a ρ da) (hb : ED T X b ρ db) (hm : behindInMarks op b = false) : ED T X (.Compare a [op] [b] pos) ρ d := fun F H σ Q f s k =>
  PE_w (pe_cmpR ho pe_w pe_w hm) (ha F H σ _ f s fun x F1 H1 f1 s1 r1 => hb F1 H1 σ _ f1 (s.mono s1.ff) fun y F2 H2 f2 s2 r2 => h F2 H2 x y Q f2 (r1.mono s2.ff) r2 fun v F3 H3 f3 s3 r3 => k v F3 H3 f3 ((s1.trans0 s2).trans0 s3) r3)
theorem td_cmp {op : CmpOp} {r : R2} {t : Bool} (ho : OpR X (compareOp op) r) (h : OD T X.K r da db (.bl t)) (ha : ED T X a ρ da) (hb : ED T X b ρ db) (hm : behindInMarks op b = false) : TD T X (.Compare a [op] [b] pos) ρ t := fun F H σ Q f s k =>
  PT_w (pt_cmpR ho pe_w pe_w hm) (ha F H σ _ f s fun x F1 H1 f1 s1 r1 => hb F1 H1 σ _ f1 (s.mono s1.ff) fun y F2 H2 f2 s2 r2 => h F2 H2 x y _ f2 (r1.mono s2.ff) r2 fun v F3 H3 f3 s3 r3 => ⟨t, rp_bl.mp r3, k F3 H3 f3 ((s1.trans0 s2).trans0 s3)⟩)
/-- a comparison by its operator: what it tells of the data -/
def KD (T : Tb) (X : Cx) (op : CmpOp) (da db : Dt) (t : Bool) : Prop := ∃ r, OpR X (compareOp op) r ∧ OD T X.K r da db (.bl t)
theorem ed_k {op : CmpOp} {t : Bool} (h : KD T X op da db t) (ha : ED T X a ρ da) (hb : ED T X b ρ db) (hm : behindInMarks op b = false := by first | exact nomark _ | rfl) : ED T X (.Compare a [op] [b] pos) ρ (.bl t) := let ⟨_, ho, hd⟩ := h; ed_cmp ho hd ha hb hm
theorem td_k {op : CmpOp} {t : Bool} (h : KD T X op da db t) (ha : ED T X a ρ da) (hb : ED T X b ρ db) (hm : behindInMarks op b = false := by first | exact nomark _ | rfl) : TD T X (.Compare a [op] [b] pos) ρ t := let ⟨_, ho, hd⟩ := h; td_cmp ho hd ha hb hm
theorem kd_lt : KD T X .Lt (.int i) (.int j) (decide (i < j)) := ⟨_, op_lt, od_I0 fun _ => rp_bl.mpr rfl⟩
theorem kd_le : KD T X .LtE (.int i) (.int j) (decide (i ≤ j)) := ⟨_, op_le, od_I0 fun _ => rp_bl.mpr rfl⟩
theorem kd_gt : KD T X .Gt (.int i) (.int j) (decide (j < i)) := ⟨_, op_gt, od_I0 fun _ => rp_bl.mpr rfl⟩
theorem kd_ge : KD T X .GtE (.int i) (.int j) (decide (j ≤ i)) := ⟨_, op_ge, od_I0 fun _ => rp_bl.mpr rfl⟩
theorem vint_eq {i j : Int} : decide ((V.int i) = V.int j) = decide (i = j) := by
  by_cases h : i = j
  · subst h; simp
  · rw [decide_eq_false h, decide_eq_false fun z => h (V.int.inj z)]
theorem vstr_eq {i j : Str} : decide ((V.str i) = V.str j) = decide (i = j) := by
  by_cases h : i = j
  · subst h; simp
  · rw [decide_eq_false h, decide_eq_false fun z => h (V.str.inj z)]
theorem kd_eqI : KD T X .Eq (.int i) (.int j) (decide (i = j)) := ⟨_, op_eq, fun F H x y Q f r1 r2 k => by
  rw [rp_int.mp r1, rp_int.mp r2]
  exact ⟨rfl, k _ F H f (Stp.refl _ _ _) (rp_bl.mpr (by rw [vint_eq]))⟩⟩
theorem kd_neI : KD T X .NotEq (.int i) (.int j) (!decide (i = j)) := ⟨_, op_ne, fun F H x y Q f r1 r2 k => by
  rw [rp_int.mp r1, rp_int.mp r2]
  exact ⟨rfl, k _ F H f (Stp.refl _ _ _) (rp_bl.mpr (by rw [vint_eq]))⟩⟩
theorem kd_eqS {i j : Str} : KD T X .Eq (.str i) (.str j) (decide (i = j)) := ⟨_, op_eq, fun F H x y Q f r1 r2 k => by
  rw [rp_str.mp r1, rp_str.mp r2]
  exact ⟨rfl, k _ F H f (Stp.refl _ _ _) (rp_bl.mpr (by rw [vstr_eq]))⟩⟩
theorem kd_neS {i j : Str} : KD T X .NotEq (.str i) (.str j) (!decide (i = j)) := ⟨_, op_ne, fun F H x y Q f r1 r2 k => by
  rw [rp_str.mp r1, rp_str.mp r2]
  exact ⟨rfl, k _ F H f (Stp.refl _ _ _) (rp_bl.mpr (by rw [vstr_eq]))⟩⟩
/-- None != an int, an int != None -/
theorem kd_neNI : KD T X .NotEq .non (.int j) true := ⟨_, op_ne, fun F H x y Q f r1 r2 k => by
  rw [rp_non.mp r1, rp_int.mp r2]
  exact ⟨rfl, k _ F H f (Stp.refl _ _ _) (rp_bl.mpr rfl)⟩⟩
def isNonD : Dt → Bool
  | .non => true
  | _ => false
theorem isNon_ok {K : PySem.W.Frag} {F : Hp} {v : V} {d : Dt} (r : Rp K F v d) : decide (v = .non) = isNonD d := by
  cases d with
  | non => rw [rp_non.mp r]; rfl
  | bl _ => rw [rp_bl.mp r]; rfl
  | int _ => rw [rp_int.mp r]; rfl
  | str _ => rw [rp_str.mp r]; rfl
  | adr _ => rw [rp_adr.mp r]; rfl
  | tup _ => obtain ⟨_, _, e, _⟩ := rp_tup.mp r; rw [e]; rfl
  | lst _ => obtain ⟨_, _, e, _⟩ := rp_lst.mp r; rw [e]; rfl
  | dct _ => obtain ⟨_, e, _⟩ := rp_dct.mp r; rw [e]; rfl
theorem kd_is : KD T X .Is da .non (isNonD da) := ⟨_, op_isN, fun F H x y Q f r1 r2 k => ⟨rp_non.mp r2, by
  rw [isNon_ok r1]
  exact k _ F H f (Stp.refl _ _ _) (rp_bl.mpr rfl)⟩⟩
theorem kd_isnot : KD T X .IsNot da .non (!isNonD da) := ⟨_, op_notN, fun F H x y Q f r1 r2 k => ⟨rp_non.mp r2, by
  rw [isNon_ok r1]
  exact k _ F H f (Stp.refl _ _ _) (rp_bl.mpr rfl)⟩⟩
/-- a < b < c and its like -/
theorem chain_w {op op' : CmpOp} {t u : Bool} (h : KD T X op da db t) (h' : KD T X op' db dc u) (ha : ED T X a ρ da) (hb : ED T X b ρ db) (hc : t = true → ED T X c ρ dc) {F H : Hp} {σ : L2.St} {Q : VK} (f : Fine T F H) (s : Slots X.K F σ ρ)
    (k : ∀ F' H', Fine T F' H' → Stp [] F H F' H' → Q (.bl (t && u)) H') : ∃ r r', OpR X (compareOp op) r ∧ OpR X (compareOp op') r' ∧ tChain r r' (wE X a) (wE X b) (wE X c) σ H Q := by
  obtain ⟨r, ho, hd⟩ := h
  obtain ⟨r', ho', hd'⟩ := h'
  refine ⟨r, r', ho, ho', ha F H σ _ f s fun x F1 H1 f1 s1 r1 => hb F1 H1 σ _ f1 (s.mono s1.ff) fun y F2 H2 f2 s2 r2 => hd F2 H2 x y _ f2 (r1.mono s2.ff) r2 fun v F3 H3 f3 s3 r3 => ⟨t, rp_bl.mp r3, ?_⟩⟩
  have s03 := (s1.trans0 s2).trans0 s3
  cases t with
  | false => exact iteF (k F3 H3 f3 s03)
  | true => exact iteT (hc rfl F3 H3 σ _ f3 (s.mono s03.ff) fun w F4 H4 f4 s4 r4 => hd' F4 H4 y w Q f4 (r2.mono (s3.ff.trans s4.ff)) r4 fun v F5 H5 f5 s5 r5 => by
      rw [rp_bl.mp r5]
      exact k F5 H5 f5 ((s03.trans0 s4).trans0 s5))
theorem ed_chain {op op' : CmpOp} {t u : Bool} (h : KD T X op da db t) (h' : KD T X op' db dc u) (ha : ED T X a ρ da) (hb : ED T X b ρ db) (hc : ED T X c ρ dc)
    (hm : lastMarks [op, op'] [b, c] = false := by with_unfolding_all rfl) : ED T X (.Compare a [op, op'] [b, c] pos) ρ (.bl (t && u)) := fun F H σ Q f s k => by
  obtain ⟨r, r', ho, ho', q⟩ := chain_w h h' ha hb (fun _ => hc) f s fun F' H' f' s' => k _ F' H' f' s' (rp_bl.mpr rfl)
  exact PE_w (pe_chain ho ho' pe_w pe_w pe_w hm) q
theorem td_chain {op op' : CmpOp} {t u : Bool} (h : KD T X op da db t) (h' : KD T X op' db dc u) (ha : ED T X a ρ da) (hb : ED T X b ρ db) (hc : ED T X c ρ dc)
    (hm : lastMarks [op, op'] [b, c] = false := by with_unfolding_all rfl) : TD T X (.Compare a [op, op'] [b, c] pos) ρ (t && u) := fun F H σ Q f s k => by
  obtain ⟨r, r', ho, ho', q⟩ := chain_w (Q := fun x H' => ∃ k, x = .bl k ∧ Q k H') h h' ha hb (fun _ => hc) f s fun F' H' f' s' => ⟨_, rfl, k F' H' f' s'⟩
  exact PT_w (pt_chain ho ho' pe_w pe_w pe_w hm) q

/-! ### tests, and, or, not, a if t else b -/
/-- a value that is True or False, as a test -/
theorem td_val {t : Bool} (h : ED T X e ρ (.bl t)) (he : ∀ whole, isTrue e X.env whole = (do let v ← whole; standAt e.pos; holding [v] (truthy v)) := by intro _; rfl) : TD T X e ρ t := fun F H σ Q f s k =>
  PT_w (pt_val pe_w he) (h F H σ _ f s fun v F1 H1 f1 s1 r1 => ⟨t, rp_bl.mp r1, k F1 H1 f1 s1⟩)
theorem td_not {t : Bool} (h : TD T X a ρ t) : TD T X (.UnaryOp .Not a pos) ρ (!t) := fun F H σ Q f s k => PT_w (pt_not pt_w) (h F H σ _ f s fun F1 H1 f1 s1 => k F1 H1 f1 s1)
theorem wd_and1 {t : Bool} (h : TD T X a ρ t) : WD T X (.BoolOp .And [a] pos) ρ t := fun F H σ Q f s k => PW_w (pw_and1 pt_w) (h F H σ _ f s k)
theorem wd_or1 {t : Bool} (h : TD T X a ρ t) : WD T X (.BoolOp .Or [a] pos) ρ t := fun F H σ Q f s k => PW_w (pw_or1 pt_w) (h F H σ _ f s k)
theorem wd_and {t u : Bool} {rest : List Expr} (h : TD T X a ρ t) (h2 : t = true → WD T X (.BoolOp .And (b :: rest) pos) ρ u) : WD T X (.BoolOp .And (a :: b :: rest) pos) ρ (t && u) := fun F H σ Q f s k =>
  PW_w (pw_and pt_w pw_w) (h F H σ _ f s fun F1 H1 f1 s1 => by
    cases t with
    | true => exact iteT (h2 rfl F1 H1 σ _ f1 (s.mono s1.ff) fun F2 H2 f2 s2 => k F2 H2 f2 (s1.trans0 s2))
    | false => exact iteF (k F1 H1 f1 s1))
theorem wd_or {t u : Bool} {rest : List Expr} (h : TD T X a ρ t) (h2 : t = false → WD T X (.BoolOp .Or (b :: rest) pos) ρ u) : WD T X (.BoolOp .Or (a :: b :: rest) pos) ρ (t || u) := fun F H σ Q f s k =>
  PW_w (pw_or pt_w pw_w) (h F H σ _ f s fun F1 H1 f1 s1 => by
    cases t with
    | true => exact iteT (k F1 H1 f1 s1)
    | false => exact iteF (h2 rfl F1 H1 σ _ f1 (s.mono s1.ff) fun F2 H2 f2 s2 => k F2 H2 f2 (s1.trans0 s2)))
theorem td_w {t : Bool} (h : WD T X e ρ t) : TD T X e ρ t := fun F H σ Q f s k => PT_w (PW.pt pw_w) (h F H σ _ f s k)
/-- .. as values -/
theorem ed_one {op} (h : ED T X a ρ d) : ED T X (.BoolOp op [a] pos) ρ d := fun F H σ Q f s k => PE_w (pe_one pe_w) (h F H σ _ f s k)
theorem ed_and {t : Bool} {rest : List Expr} {u : Bool} (h : ED T X a ρ (.bl t)) (h2 : t = true → ED T X (.BoolOp .And (b :: rest) pos) ρ (.bl u)) : ED T X (.BoolOp .And (a :: b :: rest) pos) ρ (.bl (t && u)) := fun F H σ Q f s k =>
  PE_w (pe_and pe_w pe_w) (h F H σ _ f s fun v F1 H1 f1 s1 r1 => ⟨t, rp_bl.mp r1, by
    cases t with
    | true => exact iteT (h2 rfl F1 H1 σ _ f1 (s.mono s1.ff) fun v F2 H2 f2 s2 r2 => k v F2 H2 f2 (s1.trans0 s2) r2)
    | false => exact iteF (k _ F1 H1 f1 s1 (rp_bl.mpr rfl))⟩)
theorem ed_or {t : Bool} {rest : List Expr} {u : Bool} (h : ED T X a ρ (.bl t)) (h2 : t = false → ED T X (.BoolOp .Or (b :: rest) pos) ρ (.bl u)) : ED T X (.BoolOp .Or (a :: b :: rest) pos) ρ (.bl (t || u)) := fun F H σ Q f s k =>
  PE_w (pe_or pe_w pe_w) (h F H σ _ f s fun v F1 H1 f1 s1 r1 => ⟨t, rp_bl.mp r1, by
    cases t with
    | true => exact iteT (k _ F1 H1 f1 s1 (rp_bl.mpr rfl))
    | false => exact iteF (h2 rfl F1 H1 σ _ f1 (s.mono s1.ff) fun v F2 H2 f2 s2 r2 => k v F2 H2 f2 (s1.trans0 s2) r2)⟩)
theorem ed_not {t : Bool} (h : ED T X a ρ (.bl t)) : ED T X (.UnaryOp .Not a pos) ρ (.bl (!t)) := fun F H σ Q f s k =>
  PE_w (pe_not pe_w) (h F H σ _ f s fun v F1 H1 f1 s1 r1 => ⟨t, rp_bl.mp r1, k _ F1 H1 f1 s1 (rp_bl.mpr rfl)⟩)
/-- None or x -/
theorem ed_orN {rest : List Expr} (h : ED T X a ρ .non) (h2 : ED T X (.BoolOp .Or (b :: rest) pos) ρ d) : ED T X (.BoolOp .Or (a :: b :: rest) pos) ρ d := fun F H σ Q f s k =>
  PE_w (pe_orT pe_w pe_w) (h F H σ _ f s fun v F1 H1 f1 s1 r1 => ⟨false, by
    rw [rp_non.mp r1]
    exact ⟨rfl, iteF (h2 F1 H1 σ _ f1 (s.mono s1.ff) fun v F2 H2 f2 s2 r2 => k v F2 H2 f2 (s1.trans0 s2) r2)⟩⟩)
theorem ed_if {t : Bool} (h : TD T X c ρ t) (h1 : t = true → ED T X a ρ d) (h2 : t = false → ED T X b ρ d) : ED T X (.IfExp c a b pos) ρ d := fun F H σ Q f s k =>
  PE_w (pe_ifExp pt_w pe_w pe_w) (h F H σ _ f s fun F1 H1 f1 s1 => by
    cases t with
    | true => exact iteT (h1 rfl F1 H1 σ _ f1 (s.mono s1.ff) fun v F2 H2 f2 s2 r2 => k v F2 H2 f2 (s1.trans0 s2) r2)
    | false => exact iteF (h2 rfl F1 H1 σ _ f1 (s.mono s1.ff) fun v F2 H2 f2 s2 r2 => k v F2 H2 f2 (s1.trans0 s2) r2))

/-! ### built-in functions -/
theorem ed_callB {x : Str} {p : Pos} {id : String} {r : List V → Hp → VK → Prop} (hc : CallR X (.builtin id) r) (h : CD T X.K r (d :: ds) dc) (hg : Gl X x) (hm : X.mg x = none) (hv : bootBuiltins x = some (.builtin id)) (ha : AD T X (e :: es) ρ (d :: ds)) (hn : x ≠ "__name__" := by decide) (hdb : (x == ("__debug__" : Str)) = false := by decide)
    (he : starEach (e :: es) X.env = (false, eval e X.env) :: starEach es X.env := by exact st_any rfl) (hpl : (backTo pos (starEach es X.env)).any (·.1) = false := by rfl) : ED T X (.Call (.Name x p) (e :: es) [] pos) ρ dc := fun F H σ Q f s k =>
  PE_w (pe_callB hc hg hm hv pa_w hn hdb he hpl) (ha F H σ _ f s fun vs F1 H1 f1 s1 r1 => h F1 H1 vs Q f1 r1 fun v F2 H2 f2 s2 r2 => k v F2 H2 f2 (s1.trans0 s2) r2)
theorem ed_callTy {x : Str} {p : Pos} {id : String} {r : List V → Hp → VK → Prop} (hc : CallR X (.type id) r) (h : CD T X.K r (d :: ds) dc) (hg : Gl X x) (hm : X.mg x = none) (hv : bootBuiltins x = some (.type id)) (ha : AD T X (e :: es) ρ (d :: ds)) (hn : x ≠ "__name__" := by decide) (hdb : (x == ("__debug__" : Str)) = false := by decide)
    (he : starEach (e :: es) X.env = (false, eval e X.env) :: starEach es X.env := by exact st_any rfl) (hpl : (backTo pos (starEach es X.env)).any (·.1) = false := by rfl) : ED T X (.Call (.Name x p) (e :: es) [] pos) ρ dc := fun F H σ Q f s k =>
  PE_w (pe_callTy hc hg hm hv pa_w hn hdb he hpl) (ha F H σ _ f s fun vs F1 H1 f1 s1 r1 => h F1 H1 vs Q f1 r1 fun v F2 H2 f2 s2 r2 => k v F2 H2 f2 (s1.trans0 s2) r2)
/-- a built-in's call, by its rule and by data -/
def BD (T : Tb) (X : Cx) (x : Str) (ds : List Dt) (d : Dt) : Prop := X.mg x = none ∧ ((∃ id r, CallR X (.builtin id) r ∧ bootBuiltins x = some (.builtin id) ∧ CD T X.K r ds d) ∨ ∃ id r, CallR X (.type id) r ∧ bootBuiltins x = some (.type id) ∧ CD T X.K r ds d)
theorem ed_b {x : Str} {p : Pos} (h : BD T X x (d :: ds) dc) (hg : Gl X x) (ha : AD T X (e :: es) ρ (d :: ds)) (hn : x ≠ "__name__" := by decide) (hdb : (x == ("__debug__" : Str)) = false := by decide)
    (he : starEach (e :: es) X.env = (false, eval e X.env) :: starEach es X.env := by exact st_any rfl) (hpl : (backTo pos (starEach es X.env)).any (·.1) = false := by rfl) : ED T X (.Call (.Name x p) (e :: es) [] pos) ρ dc := by
  rcases h with ⟨hm, ⟨id, r, hc, hv, h⟩ | ⟨id, r, hc, hv, h⟩⟩
  · exact ed_callB hc h hg hm hv ha hn hdb he hpl
  · exact ed_callTy hc h hg hm hv ha hn hdb he hpl
theorem vs1 {K : PySem.W.Frag} {F : Hp} {vs : List V} {d : Dt} (r : Rps K F vs [d]) : ∃ v, vs = [v] ∧ Rp K F v d := by
  obtain ⟨v, w, e, h1, h2⟩ := rps_cons.mp r
  rw [rps_nil.mp h2] at e
  exact ⟨v, e, h1⟩
theorem vs2 {K : PySem.W.Frag} {F : Hp} {vs : List V} {d d' : Dt} (r : Rps K F vs [d, d']) : ∃ v v', vs = [v, v'] ∧ Rp K F v d ∧ Rp K F v' d' := by
  obtain ⟨v, w, e, h1, h2⟩ := rps_cons.mp r
  obtain ⟨v', e', h3⟩ := vs1 h2
  rw [e'] at e
  exact ⟨v, v', e, h1, h3⟩
theorem bd_abs (hm : X.mg "abs" = none) : BD T X "abs" [.int i] (.int (if i < 0 then -i else i)) := ⟨hm, .inl ⟨_, _, call_abs, by decide +kernel, fun F H vs Q f r k => by
  obtain ⟨v, rfl, h1⟩ := vs1 r
  rw [rp_int.mp h1]
  exact ⟨i, rfl, k _ F H f (Stp.refl _ _ _) (rp_int.mpr rfl)⟩⟩⟩
theorem bd_max (hm : X.mg "max" = none) (hc : X.calm = true) : BD T X "max" [.int i, .int j] (.int (if j > i then j else i)) := ⟨hm, .inl ⟨_, _, call_max2 hc, by decide +kernel, fun F H vs Q f r k => by
  obtain ⟨v, w, rfl, h1, h2⟩ := vs2 r
  rw [rp_int.mp h1, rp_int.mp h2]
  exact ⟨i, j, rfl, k _ F H f (Stp.refl _ _ _) (rp_int.mpr rfl)⟩⟩⟩
theorem bd_min (hm : X.mg "min" = none) (hc : X.calm = true) : BD T X "min" [.int i, .int j] (.int (if j < i then j else i)) := ⟨hm, .inl ⟨_, _, call_min2 hc, by decide +kernel, fun F H vs Q f r k => by
  obtain ⟨v, w, rfl, h1, h2⟩ := vs2 r
  rw [rp_int.mp h1, rp_int.mp h2]
  exact ⟨i, j, rfl, k _ F H f (Stp.refl _ _ _) (rp_int.mpr rfl)⟩⟩⟩
theorem bd_intB {t : Bool} (hm : X.mg "int" = none) : BD T X "int" [.bl t] (.int (if t then 1 else 0)) := ⟨hm, .inr ⟨_, _, call_int1, by decide +kernel, fun F H vs Q f r k => by
  obtain ⟨v, rfl, h1⟩ := vs1 r
  rw [rp_bl.mp h1]
  exact .inr ⟨t, rfl, k _ F H f (Stp.refl _ _ _) (rp_int.mpr rfl)⟩⟩⟩
theorem bd_lenT (hm : X.mg "len" = none) : BD T X "len" [.tup ds] (.int (ds.length : Int)) := ⟨hm, .inl ⟨_, _, call_len_seq, by decide +kernel, fun F H vs Q f r k => by
  obtain ⟨v, rfl, h1⟩ := vs1 r
  obtain ⟨p, us, rfl, h2, h3⟩ := rp_tup.mp h1
  exact ⟨p, us, rfl, .inr (ex_t f.sub h2), k _ F H f (Stp.refl _ _ _) (rp_int.mpr (by rw [h3.length]))⟩⟩⟩
theorem bd_lenL (hm : X.mg "len" = none) : BD T X "len" [.lst ds] (.int (ds.length : Int)) := ⟨hm, .inl ⟨_, _, call_len_seq, by decide +kernel, fun F H vs Q f r k => by
  obtain ⟨v, rfl, h1⟩ := vs1 r
  obtain ⟨p, us, rfl, h2, h3⟩ := rp_lst.mp h1
  exact ⟨p, us, rfl, .inl (SqL.of (f.sub _ _ h2)), k _ F H f (Stp.refl _ _ _) (rp_int.mpr (by rw [h3.length]))⟩⟩⟩
theorem bd_lenS {x : Str} (hm : X.mg "len" = none) (hx : x.length ≤ sizeLine) : BD T X "len" [.str x] (.int (x.length : Int)) := ⟨hm, .inl ⟨_, _, call_len_str, by decide +kernel, fun F H vs Q f r k => by
  obtain ⟨v, rfl, h1⟩ := vs1 r
  rw [rp_str.mp h1]
  exact ⟨x, rfl, hx, k _ F H f (Stp.refl _ _ _) (rp_int.mpr rfl)⟩⟩⟩
theorem bd_listT (hm : X.mg "list" = none) : BD T X "list" [.tup ds] (.lst ds) := ⟨hm, .inr ⟨_, _, call_list_of, by decide +kernel, fun F H vs Q f r k => by
  obtain ⟨v, rfl, h1⟩ := vs1 r
  obtain ⟨p, us, rfl, h2, h3⟩ := rp_tup.mp h1
  exact ⟨p, us, rfl, .inr (ex_t f.sub h2), fun l hl => let ⟨f', s', r'⟩ := lst_new hl f h3; k _ _ _ f' s' r'⟩⟩⟩
theorem bd_listL (hm : X.mg "list" = none) : BD T X "list" [.lst ds] (.lst ds) := ⟨hm, .inr ⟨_, _, call_list_of, by decide +kernel, fun F H vs Q f r k => by
  obtain ⟨v, rfl, h1⟩ := vs1 r
  obtain ⟨p, us, rfl, h2, h3⟩ := rp_lst.mp h1
  exact ⟨p, us, rfl, .inl (SqL.of (f.sub _ _ h2)), fun l hl => let ⟨f', s', r'⟩ := lst_new hl f h3; k _ _ _ f' s' r'⟩⟩⟩
theorem bd_tupleL (hm : X.mg "tuple" = none) : BD T X "tuple" [.lst ds] (.tup ds) := ⟨hm, .inr ⟨_, _, call_tuple_of, by decide +kernel, fun F H vs Q f r k => by
  obtain ⟨v, rfl, h1⟩ := vs1 r
  obtain ⟨p, us, rfl, h2, h3⟩ := rp_lst.mp h1
  exact ⟨p, us, rfl, .inl ⟨SqL.of (f.sub _ _ h2), fun l hl => let ⟨f', s', r'⟩ := cat_new hl f h3; k _ _ _ f' s' r'⟩⟩⟩⟩
theorem bd_all {bs : List Bool} (hm : X.mg "all" = none) (hc : X.calm = true) : BD T X "all" [.lst (bs.map .bl)] (.bl (bs.all id)) := ⟨hm, .inl ⟨_, _, cr_all hc, by decide +kernel, fun F H vs Q f r k => by
  obtain ⟨v, rfl, h1⟩ := vs1 r
  obtain ⟨p, us, rfl, h2, h3⟩ := rp_lst.mp h1
  rw [rps_bls h3] at h2
  exact ⟨p, bs, rfl, SqL.of (f.sub _ _ h2), k _ F H f (Stp.refl _ _ _) (rp_bl.mpr rfl)⟩⟩⟩
theorem bd_any {bs : List Bool} (hm : X.mg "any" = none) (hc : X.calm = true) : BD T X "any" [.lst (bs.map .bl)] (.bl (bs.any id)) := ⟨hm, .inl ⟨_, _, cr_any hc, by decide +kernel, fun F H vs Q f r k => by
  obtain ⟨v, rfl, h1⟩ := vs1 r
  obtain ⟨p, us, rfl, h2, h3⟩ := rp_lst.mp h1
  rw [rps_bls h3] at h2
  exact ⟨p, bs, rfl, SqL.of (f.sub _ _ h2), k _ F H f (Stp.refl _ _ _) (rp_bl.mpr rfl)⟩⟩⟩
theorem bd_sum {ns : List Int} (hm : X.mg "sum" = none) (hc : X.calm = true) : BD T X "sum" [.lst (ns.map .int)] (.int ns.sum) := ⟨hm, .inl ⟨_, _, cr_sum hc, by decide +kernel, fun F H vs Q f r k => by
  obtain ⟨v, rfl, h1⟩ := vs1 r
  obtain ⟨p, us, rfl, h2, h3⟩ := rp_lst.mp h1
  rw [rps_ints h3] at h2
  exact ⟨p, ns, rfl, SqL.of (f.sub _ _ h2), k _ F H f (Stp.refl _ _ _) (rp_int.mpr rfl)⟩⟩⟩
end
end BL
set_option maxHeartbeats 4000000
/-! Foundation, part 3: isinstance, == of data, in, calls of defs. -/
namespace BL
open PySem PySem.Spec PyProof.Rows L2 Evl

/-! ### isinstance -/
def tyD : Dt → Option String
  | .non => some "NoneType"
  | .bl _ => some "bool"
  | .int _ => some "int"
  | .str _ => some "str"
  | .tup _ => some "tuple"
  | .lst _ => some "list"
  | .dct _ => some "dict"
  | .adr _ => none
theorem ty_ok {T : Tb} {K : PySem.W.Frag} {F H : Hp} (f : Fine T F H) : ∀ {d : Dt} {v : V} {t : String}, Rp K F v d → tyD d = some t → TyX K H v (.type t)
  | .non, _, _, r, e => by rw [rp_non.mp r, ← Option.some.inj e]; exact .base .non
  | .bl _, _, _, r, e => by rw [rp_bl.mp r, ← Option.some.inj e]; exact .base (.bl _)
  | .int _, _, _, r, e => by rw [rp_int.mp r, ← Option.some.inj e]; exact .base (.int _)
  | .str _, _, _, r, e => by rw [rp_str.mp r, ← Option.some.inj e]; exact .base (.str _)
  | .tup _, _, _, r, e => by
    obtain ⟨a, vs, e1, h, _⟩ := rp_tup.mp r
    rw [e1, ← Option.some.inj e]
    rcases h with (h | ⟨o, h⟩) | ⟨o, its, n, h, hc, _⟩
    · exact .base (.tup (f.sub _ _ h))
    · exact .fTuple (f.sub _ _ h)
    · exact .kTuple h hc
  | .lst _, _, _, r, e => by
    obtain ⟨a, vs, e1, h, _⟩ := rp_lst.mp r
    rw [e1, ← Option.some.inj e]
    exact .base (.lst (f.sub _ _ h))
  | .dct _, _, _, r, e => by
    obtain ⟨a, e1, h⟩ := rp_dct.mp r
    rw [e1, ← Option.some.inj e]
    exact .base (.dK (f.sub _ _ h))
  | .adr _, _, _, _, e => by cases e
section
variable {T : Tb} {X : Cx} {ρ : Rho} {a b c e : Expr} {es : List Expr} {da db dc d : Dt} {ds : List Dt} {pos : Pos} {i j : Int}
theorem ed_isi {n t : String} {q : Bool} {p p2 : Pos} (h : ED T X e ρ d) (hd : tyD d = some t) (hk : kitB t n = some q) (hm : X.mg "isinstance" = none) (hmn : X.mg (Str.ofString n) = none) (hbn : bootBuiltins (Str.ofString n) = some (.type n)) (hg : Gl X "isinstance") (hgn : Gl X (Str.ofString n))
    (hnn : (Str.ofString n) ≠ "__name__" := by decide) (hdb : ((Str.ofString n) == ("__debug__" : Str)) = false := by decide)
    (he : starEach [e, .Name (Str.ofString n) p2] X.env = (false, eval e X.env) :: starEach [.Name (Str.ofString n) p2] X.env := by exact st_any rfl)
    (he2 : starEach [.Name (Str.ofString n) p2] X.env = (false, eval (.Name (Str.ofString n) p2) X.env) :: starEach [] X.env := by rfl)
    (hpl : (backTo pos (starEach [.Name (Str.ofString n) p2] X.env)).any (·.1) = false := by rfl) : ED T X (.Call (.Name "isinstance" p) [e, .Name (Str.ofString n) p2] [] pos) ρ (.bl q) := fun F H σ Q f s k => by
  refine PE_w (pe_callB call_isi hg hm boot_isinstance (pa_cons pe_w (pa_cons (pe_bltn (v := .ty n) hgn hmn hbn rfl hnn hdb) pa_nil he2) he) (by decide) (by decide) he hpl) ?_
  refine h F H σ _ f s fun v F1 H1 f1 s1 r1 => ?_
  exact ⟨v, .ty n, .type t, .type n, q, rfl, .ty n, ty_ok f1 r1 hd, kit_ty hk, k _ F1 H1 f1 s1 (rp_bl.mpr rfl)⟩
theorem kit_tt : kitB "tuple" "tuple" = some true := by decide +kernel
theorem kit_ii : kitB "int" "int" = some true := by decide +kernel
theorem kit_ib : kitB "int" "bool" = some false := by decide +kernel
theorem kit_ss : kitB "str" "str" = some true := by decide +kernel
end

/-! ### == of data -/
mutual
def pd : Dt → PyData
  | .non => .none
  | .bl b => .bool b
  | .int i => .int i
  | .str s => .str s
  | .tup ds => .tuple (pds ds)
  | .lst ds => .list (pds ds)
  | .dct _ => .none
  | .adr _ => .none
def pds : List Dt → List PyData
  | [] => []
  | d :: ds => pd d :: pds ds
end
/-- no truths, no dicts, no addresses; of at most n layers -/
def Cln : Nat → Dt → Prop
  | _, .int _ => True
  | _, .non => True
  | _, .str s => PyData.strOk s = true
  | n + 1, .tup ds => ∀ d ∈ ds, Cln n d
  | n + 1, .lst ds => ∀ d ∈ ds, Cln n d
  | _, _ => False
theorem Cln.up : ∀ {n m : Nat} {d : Dt}, Cln n d → n ≤ m → Cln m d
  | n, m, .int _, _, _ => by cases m <;> trivial
  | n, m, .non, _, _ => by cases m <;> trivial
  | n, m, .str s, h, _ => by
    have h : PyData.strOk s = true := by cases n <;> exact h
    cases m <;> exact h
  | n + 1, m + 1, .tup ds, h, l => fun d hd => Cln.up (h d hd) (Nat.le_of_succ_le_succ l)
  | n + 1, m + 1, .lst ds, h, l => fun d hd => Cln.up (h d hd) (Nat.le_of_succ_le_succ l)
  | 0, _, .tup _, h, _ => h.elim
  | 0, _, .lst _, h, _ => h.elim
  | 0, _, .bl _, h, _ => h.elim
  | _ + 1, _, .bl _, h, _ => h.elim
  | 0, _, .dct _, h, _ => h.elim
  | _ + 1, _, .dct _, h, _ => h.elim
  | 0, _, .adr _, h, _ => h.elim
  | _ + 1, _, .adr _, h, _ => h.elim
  | _ + 1, 0, .tup _, _, l => absurd l (by omega)
  | _ + 1, 0, .lst _, _, l => absurd l (by omega)
theorem pds_shape {n : Nat} (ih : ∀ d, Cln n d → (pd d).canLay0 = true ∧ (pd d).depth ≤ n) : ∀ ds : List Dt, (∀ d ∈ ds, Cln n d) → PyData.canLayAll0 (pds ds) = true ∧ PyData.depthAll (pds ds) ≤ n
  | [], _ => ⟨by simp [pds, PyData.canLayAll0], by simp [pds, PyData.depthAll]⟩
  | d :: ds, h => by
    obtain ⟨a, b⟩ := ih d (h d (by simp))
    obtain ⟨a', b'⟩ := pds_shape ih ds fun x hx => h x (by simp [hx])
    refine ⟨by simp [pds, PyData.canLayAll0, a, a'], ?_⟩
    simp only [pds, PyData.depthAll]
    omega
theorem pd_shape : ∀ (n : Nat) (d : Dt), Cln n d → (pd d).canLay0 = true ∧ (pd d).depth ≤ n := by
  intro n
  induction n with
  | zero =>
    intro d h
    cases d with
    | int _ => simp [pd, PyData.canLay0, PyData.depth]
    | non => simp [pd, PyData.canLay0, PyData.depth]
    | str s => exact ⟨by simp only [pd, PyData.canLay0]; exact h, by simp [pd, PyData.depth]⟩
    | _ => exact h.elim
  | succ n ih =>
    intro d h
    cases d with
    | int _ => simp [pd, PyData.canLay0, PyData.depth]
    | non => simp [pd, PyData.canLay0, PyData.depth]
    | str s => exact ⟨by simp only [pd, PyData.canLay0]; exact h, by simp [pd, PyData.depth]⟩
    | tup ds =>
      obtain ⟨a, b⟩ := pds_shape ih ds h
      simp only [pd, PyData.canLay0, PyData.depth]
      exact ⟨a, by omega⟩
    | lst ds =>
      obtain ⟨a, b⟩ := pds_shape ih ds h
      simp only [pd, PyData.canLay0, PyData.depth]
      exact ⟨a, by omega⟩
    | _ => exact h.elim
theorem pd_shaped {n : Nat} {d : Dt} (h : Cln n d) (hn : n ≤ 64) : SeqAt.shaped (pd d) = true := by
  obtain ⟨a, b⟩ := pd_shape n d h
  unfold SeqAt.shaped
  rw [a, decide_eq_true (show (pd d).depth ≤ 64 by omega)]
  rfl
theorem pds_eqv {n : Nat} (ih : ∀ d e, Cln n d → Cln n e → (PyData.eqv (pd d) (pd e) = true ↔ d = e)) : ∀ ds es : List Dt, (∀ d ∈ ds, Cln n d) → (∀ d ∈ es, Cln n d) → (PyData.eqvAll (pds ds) (pds es) = true ↔ ds = es)
  | [], [], _, _ => by simp [pds, PyData.eqvAll]
  | [], _ :: _, _, _ => by simp [pds, PyData.eqvAll]
  | _ :: _, [], _, _ => by simp [pds, PyData.eqvAll]
  | d :: ds, e :: es, h, k => by
    have a := ih d e (h d (by simp)) (k e (by simp))
    have b := pds_eqv ih ds es (fun x hx => h x (by simp [hx])) fun x hx => k x (by simp [hx])
    simp only [pds, PyData.eqvAll, Bool.and_eq_true, a, b, List.cons.injEq]
theorem pd_eqv : ∀ (n : Nat) (d e : Dt), Cln n d → Cln n e → (PyData.eqv (pd d) (pd e) = true ↔ d = e) := by
  intro n
  induction n with
  | zero =>
    intro d e h k
    cases d <;> cases e <;> first | exact h.elim | exact k.elim | simp [pd, PyData.eqv]
  | succ n ih =>
    intro d e h k
    cases d with
    | tup ds =>
      cases e with
      | tup es => simp only [pd, PyData.eqv, Dt.tup.injEq]; exact pds_eqv ih ds es h k
      | _ => first | exact k.elim | simp [pd, PyData.eqv]
    | lst ds =>
      cases e with
      | lst es => simp only [pd, PyData.eqv, Dt.lst.injEq]; exact pds_eqv ih ds es h k
      | _ => first | exact k.elim | simp [pd, PyData.eqv]
    | int _ => cases e <;> first | exact k.elim | simp [pd, PyData.eqv]
    | non => cases e <;> first | exact k.elim | simp [pd, PyData.eqv]
    | str _ => cases e <;> first | exact k.elim | simp [pd, PyData.eqv]
    | _ => exact h.elim
mutual
theorem rp_dp {T : Tb} {K : PySem.W.Frag} {F H : Hp} (f : Fine T F H) : ∀ {n : Nat} {d : Dt} {v : V}, Rp K F v d → Cln n d → Dp K H v (pd d)
  | _, .non, _, r, _ => by rw [rp_non.mp r]; simp only [pd]; exact .non
  | _, .int _, _, r, _ => by rw [rp_int.mp r]; simp only [pd]; exact .int _
  | _, .str _, _, r, _ => by rw [rp_str.mp r]; simp only [pd]; exact .str _
  | _ + 1, .tup ds, _, r, c => by
    obtain ⟨a, vs, e, h, hs⟩ := rp_tup.mp r
    rw [e]
    simp only [pd]
    exact .tup (ex_t f.sub h) (rps_dp f hs c)
  | _ + 1, .lst ds, _, r, c => by
    obtain ⟨a, vs, e, h, hs⟩ := rp_lst.mp r
    rw [e]
    simp only [pd]
    exact .lst (SqL.of (f.sub _ _ h)) (rps_dp f hs c)
  | 0, .tup _, _, _, h => h.elim
  | 0, .lst _, _, _, h => h.elim
  | 0, .bl _, _, _, h => h.elim
  | _ + 1, .bl _, _, _, h => h.elim
  | 0, .dct _, _, _, h => h.elim
  | _ + 1, .dct _, _, _, h => h.elim
  | 0, .adr _, _, _, h => h.elim
  | _ + 1, .adr _, _, _, h => h.elim
theorem rps_dp {T : Tb} {K : PySem.W.Frag} {F H : Hp} (f : Fine T F H) : ∀ {n : Nat} {ds : List Dt} {vs : List V}, Rps K F vs ds → (∀ d ∈ ds, Cln n d) → DpAll K H vs (pds ds)
  | _, [], _, r, _ => by rw [rps_nil.mp r]; simp only [pds]; exact .nil
  | _, d :: ds, _, r, c => by
    obtain ⟨v, w, e, h1, h2⟩ := rps_cons.mp r
    rw [e]
    simp only [pds]
    exact .cons (rp_dp f h1 (c d (by simp))) (rps_dp f h2 fun x hx => c x (by simp [hx]))
end
noncomputable def eqD (d e : Dt) : Bool := @decide (d = e) (Classical.propDecidable _)
theorem eqD_t {d e : Dt} (h : d = e) : eqD d e = true := @decide_eq_true _ (Classical.propDecidable _) h
theorem eqD_f {d e : Dt} (h : ¬ d = e) : eqD d e = false := @decide_eq_false _ (Classical.propDecidable _) h
theorem eqD_of {d e : Dt} (h : eqD d e = true) : d = e := @of_decide_eq_true _ (Classical.propDecidable _) h
theorem eqD_iff {d e : Dt} : eqD d e = true ↔ d = e := ⟨eqD_of, eqD_t⟩
section
variable {T : Tb} {X : Cx} {ρ : Rho} {a b c e : Expr} {es : List Expr} {da db dc d : Dt} {ds : List Dt} {pos : Pos} {i j : Int}
theorem eqv_eqD {n : Nat} {d e : Dt} (h : Cln n d) (k : Cln n e) : PyData.eqv (pd d) (pd e) = eqD d e := by
  have q := pd_eqv n d e h k
  cases x : eqD d e with
  | true => exact q.mpr (eqD_of x)
  | false =>
    cases y : PyData.eqv (pd d) (pd e) with
    | false => rfl
    | true =>
      rw [eqD_t (q.mp y)] at x
      cases x
theorem kd_eqD {n : Nat} (h : Cln n da) (k : Cln n db) (hu : X.A.units + 64 < cLine) (hn : n ≤ 64 := by decide) : KD T X .Eq da db (eqD da db) := ⟨_, op_eqD hu, fun F H x y Q f r1 r2 kk =>
  ⟨pd da, pd db, rp_dp f r1 h, rp_dp f r2 k, pd_shaped h hn, pd_shaped k hn, kk _ F H f (Stp.refl _ _ _) (rp_bl.mpr (by rw [eqv_eqD h k]))⟩⟩
theorem kd_neD {n : Nat} (h : Cln n da) (k : Cln n db) (hu : X.A.units + 64 < cLine) (hn : n ≤ 64 := by decide) : KD T X .NotEq da db (!eqD da db) := ⟨_, op_neD hu, fun F H x y Q f r1 r2 kk =>
  ⟨pd da, pd db, rp_dp f r1 h, rp_dp f r2 k, pd_shaped h hn, pd_shaped k hn, kk _ F H f (Stp.refl _ _ _) (rp_bl.mpr (by rw [eqv_eqD h k]))⟩⟩

/-! ### in -/
theorem in_ints {i : Int} : ∀ ns : List Int, inV (.int i) (ns.map V.int) = decide (i ∈ ns)
  | [] => rfl
  | n :: ns => by
    have ih := in_ints (i := i) ns
    unfold inV at ih ⊢
    rw [List.map_cons, List.any_cons, ih]
    by_cases h : n = i
    · subst h; simp [eqV]
    · have h' : ¬ i = n := fun z => h z.symm
      simp [eqV, h, h']
theorem flat_ints : ∀ ns : List Int, (ns.map V.int).all flatV = true
  | [] => rfl
  | _ :: ns => by rw [List.map_cons, List.all_cons, flat_ints ns]; rfl
theorem in_strs {i : Str} : ∀ ns : List Str, inV (.str i) (ns.map V.str) = decide (i ∈ ns)
  | [] => rfl
  | n :: ns => by
    have ih := in_strs (i := i) ns
    unfold inV at ih ⊢
    rw [List.map_cons, List.any_cons, ih]
    by_cases h : n = i
    · subst h; simp [eqV]
    · have h' : ¬ i = n := fun z => h z.symm
      simp [eqV, h, h']
theorem flat_strs' : ∀ ns : List Str, (ns.map V.str).all flatV = true
  | [] => rfl
  | _ :: ns => by rw [List.map_cons, List.all_cons, flat_strs' ns]; rfl
theorem in_bls {i : Bool} : ∀ ns : List Bool, inV (.bl i) (ns.map V.bl) = decide (i ∈ ns)
  | [] => rfl
  | n :: ns => by
    have ih := in_bls (i := i) ns
    unfold inV at ih ⊢
    rw [List.map_cons, List.any_cons, ih]
    cases n <;> cases i <;> simp [eqV]
theorem flat_bls : ∀ ns : List Bool, (ns.map V.bl).all flatV = true
  | [] => rfl
  | _ :: ns => by rw [List.map_cons, List.all_cons, flat_bls ns]; rfl
theorem kd_inIL {ns : List Int} : KD T X .In (.int i) (.lst (ns.map .int)) (decide (i ∈ ns)) := ⟨_, op_in_seq, fun F H x y Q f r1 r2 k => by
  obtain ⟨p, us, rfl, h2, h3⟩ := rp_lst.mp r2
  rw [rps_ints h3] at h2
  rw [rp_int.mp r1]
  refine ⟨p, _, rfl, .inl (SqL.of (f.sub _ _ h2)), rfl, flat_ints ns, k _ F H f (Stp.refl _ _ _) (rp_bl.mpr ?_)⟩
  rw [if_neg (by decide), in_ints]⟩
theorem kd_inBL {t : Bool} {ns : List Bool} : KD T X .In (.bl t) (.lst (ns.map .bl)) (decide (t ∈ ns)) := ⟨_, op_in_seq, fun F H x y Q f r1 r2 k => by
  obtain ⟨p, us, rfl, h2, h3⟩ := rp_lst.mp r2
  rw [rps_bls h3] at h2
  rw [rp_bl.mp r1]
  refine ⟨p, _, rfl, .inl (SqL.of (f.sub _ _ h2)), rfl, flat_bls ns, k _ F H f (Stp.refl _ _ _) (rp_bl.mpr ?_)⟩
  rw [if_neg (by decide), in_bls]⟩
theorem kd_inSL {x : Str} {ns : List Str} : KD T X .In (.str x) (.lst (ns.map .str)) (decide (x ∈ ns)) := ⟨_, op_in_seq, fun F H _ _ Q f r1 r2 k => by
  obtain ⟨p, us, rfl, h2, h3⟩ := rp_lst.mp r2
  rw [rps_strs h3] at h2
  rw [rp_str.mp r1]
  refine ⟨p, _, rfl, .inl (SqL.of (f.sub _ _ h2)), rfl, flat_strs' ns, k _ F H f (Stp.refl _ _ _) (rp_bl.mpr ?_)⟩
  rw [if_neg (by decide), in_strs]⟩
theorem kd_ninSL {x : Str} {ns : List Str} : KD T X .NotIn (.str x) (.lst (ns.map .str)) (!decide (x ∈ ns)) := ⟨_, op_notIn_seq, fun F H _ _ Q f r1 r2 k => by
  obtain ⟨p, us, rfl, h2, h3⟩ := rp_lst.mp r2
  rw [rps_strs h3] at h2
  rw [rp_str.mp r1]
  refine ⟨p, _, rfl, .inl (SqL.of (f.sub _ _ h2)), rfl, flat_strs' ns, k _ F H f (Stp.refl _ _ _) (rp_bl.mpr ?_)⟩
  rw [if_pos (by decide), in_strs]⟩
theorem kd_ninST {x : Str} {ns : List Str} : KD T X .NotIn (.str x) (.tup (ns.map .str)) (!decide (x ∈ ns)) := ⟨_, op_notIn_seq, fun F H _ _ Q f r1 r2 k => by
  obtain ⟨p, us, rfl, h2, h3⟩ := rp_tup.mp r2
  rw [rps_strs h3] at h2
  rw [rp_str.mp r1]
  refine ⟨p, _, rfl, .inr (ex_t f.sub h2), rfl, flat_strs' ns, k _ F H f (Stp.refl _ _ _) (rp_bl.mpr ?_)⟩
  rw [if_pos (by decide), in_strs]⟩
/-- one sign in a text -/
theorem kd_sign {c : Nat} {z : Str} : KD T X .In (.str ⟨#[c]⟩) (.str z) (decide (c ∈ z.cps.toList)) := ⟨_, op_in_sign, fun F H _ _ Q f r1 r2 k =>
  ⟨c, z, rp_str.mp r1, rp_str.mp r2, k _ F H f (Stp.refl _ _ _) (rp_bl.mpr rfl)⟩⟩
end

/-! ### calls of defs -/
/-- the promise of a def that changes nothing: R tells of good arguments the answer -/
def spR (T : Tb) (K : PySem.W.Frag) (n : Nat) (R : List Dt → Dt → Prop) : Sp := fun vs H Q _ => vs.length = n ∧ ∃ F ds d, Fine T F H ∧ Rps K F vs ds ∧ R ds d ∧ ∀ v F' H', Fine T F' H' → Stp [] F H F' H' → Rp K F' v d → Q v H'
/-- where a program's text stands: fixed through all -/
structure Wo where
  P : Program
  w : World
  K : PySem.W.Frag
  mg : Str → Option Value
  base : Heap
structure Cal (W : Wo) (T : Tb) (k : Nat) (x : Str) (ps : List Str) (R : List Dt → Dt → Prop) : Prop where
  ex : ∃ f fd, FnOk W.P W.w W.K W.mg W.base CX0 k f fd ps (spR T W.K ps.length R) ∧ W.mg x = some (.ref f) ∧ PySem.W.keepIn W.K (.ref f) = true ∧ Binds W.K fd ps []
abbrev Cx.wo (X : Cx) : Wo := ⟨X.prog, X.w, X.K, X.mg, X.base⟩
section
variable {T : Tb} {X : Cx} {ρ : Rho} {a b c e : Expr} {es : List Expr} {da db dc d : Dt} {ds : List Dt} {pos : Pos}
theorem ed_call {k : Nat} {x : Str} {ps : List Str} {R : List Dt → Dt → Prop} {p : Pos} (hc : Cal (Cx.wo X) T k x ps R) (hr : Room k X.A) (hg : Gl X x) (ha : AD T X (e :: es) ρ ds) (g : R ds d) (hl : ds.length = ps.length := by rfl) (hdb : (x == ("__debug__" : Str)) = false := by decide)
    (he : starEach (e :: es) X.env = (false, eval e X.env) :: starEach es X.env := by exact st_any rfl) (hpl : (backTo pos (starEach es X.env)).any (·.1) = false := by rfl) : ED T X (.Call (.Name x p) (e :: es) [] pos) ρ d := fun F H σ Q f s kk => by
  obtain ⟨f0, fd, F0, hm, hk, hb⟩ := hc.ex
  refine PE_w (pe_call (E := E0) F0 hr hg hm hk hb .nil pass0 pa_w hdb he hpl) ?_
  refine ha F H σ _ f s fun vs F1 H1 f1 s1 r1 => ?_
  show spR T X.K ps.length R (vs ++ []) H1 Q _
  rw [List.append_nil]
  exact ⟨by rw [r1.length]; exact hl, F1, ds, d, f1, r1, g, fun v F2 H2 f2 s2 r2 => kk v F2 H2 f2 (s1.trans0 s2) r2⟩
end
end BL
set_option maxHeartbeats 4000000
/-! Foundation, part 4: what changes, statements. -/
namespace BL
open PySem PySem.Spec PyProof.Rows L2 Evl

/-! ### expressions that may change the memory -/
section
variable (T : Tb) (X : Cx)
def WE (e : Expr) (ρ : Rho) (M : Mem) (Ψ : Dt → Mem → Prop) : Prop := ∀ (F H : Hp) (σ : L2.St) (Q : VK), Fine T F H → Slots X.K F σ ρ → MemOk X.K F H M →
  (∀ v d M' F' H', Ψ d M' → Reach T X.K M F H M' F' H' → Rp X.K F' v d → Q v H') → wE X e σ H Q
def WT (e : Expr) (ρ : Rho) (M : Mem) (Ψ : Bool → Mem → Prop) : Prop := ∀ (F H : Hp) (σ : L2.St) (Q : Bool → Hp → Prop), Fine T F H → Slots X.K F σ ρ → MemOk X.K F H M →
  (∀ b M' F' H', Ψ b M' → Reach T X.K M F H M' F' H' → Q b H') → wT X e σ H Q
def WW (e : Expr) (ρ : Rho) (M : Mem) (Ψ : Bool → Mem → Prop) : Prop := ∀ (F H : Hp) (σ : L2.St) (Q : Bool → Hp → Prop), Fine T F H → Slots X.K F σ ρ → MemOk X.K F H M →
  (∀ b M' F' H', Ψ b M' → Reach T X.K M F H M' F' H' → Q b H') → wW X e σ H Q
def WA (es : List Expr) (ρ : Rho) (M : Mem) (Ψ : List Dt → Mem → Prop) : Prop := ∀ (F H : Hp) (σ : L2.St) (Q : List V → Hp → Prop), Fine T F H → Slots X.K F σ ρ → MemOk X.K F H M →
  (∀ vs ds M' F' H', Ψ ds M' → Reach T X.K M F H M' F' H' → Rps X.K F' vs ds → Q vs H') → wA X es σ H Q
end

/-! ### what is wanted behind a statement -/
structure DE where
  nx : Rho → Mem → Prop
  rt : Dt → Mem → Prop
  bk : Rho → Mem → Prop := fun _ _ => False
  ct : Rho → Mem → Prop := fun _ _ => False
structure Fits (T : Tb) (K : PySem.W.Frag) (M : Mem) (F H : Hp) (E : DE) (D : Ends) : Prop where
  nx : ∀ σ' ρ' M' F' H', E.nx ρ' M' → Reach T K M F H M' F' H' → Slots K F' σ' ρ' → D.nx σ' H'
  rt : ∀ v d M' F' H', E.rt d M' → Reach T K M F H M' F' H' → Rp K F' v d → D.rt v H'
  bk : ∀ σ' ρ' M' F' H', E.bk ρ' M' → Reach T K M F H M' F' H' → Slots K F' σ' ρ' → D.bk σ' H'
  ct : ∀ σ' ρ' M' F' H', E.ct ρ' M' → Reach T K M F H M' F' H' → Slots K F' σ' ρ' → D.ct σ' H'
theorem Fits.after {T : Tb} {K : PySem.W.Frag} {M M1 : Mem} {F H F1 H1 : Hp} {E : DE} {D : Ends} (f : Fits T K M F H E D) (r : Reach T K M F H M1 F1 H1) : Fits T K M1 F1 H1 E D :=
  ⟨fun σ' ρ' M' F' H' e q => f.nx σ' ρ' M' F' H' e (r.trans q), fun v d M' F' H' e q => f.rt v d M' F' H' e (r.trans q), fun σ' ρ' M' F' H' e q => f.bk σ' ρ' M' F' H' e (r.trans q), fun σ' ρ' M' F' H' e q => f.ct σ' ρ' M' F' H' e (r.trans q)⟩
section
variable (T : Tb) (X : Cx)
def W1 (st : Stmt) (ρ : Rho) (M : Mem) (E : DE) : Prop := ∀ (F H : Hp) (σ : L2.St) (D : Ends), Fine T F H → Slots X.K F σ ρ → MemOk X.K F H M → Fits T X.K M F H E D → wS X st D σ H
def WS (sts : List Stmt) (ρ : Rho) (M : Mem) (E : DE) : Prop := ∀ (F H : Hp) (σ : L2.St) (D : Ends), Fine T F H → Slots X.K F σ ρ → MemOk X.K F H M → Fits T X.K M F H E D → wSs X sts D σ H
end
section
variable {T : Tb} {X : Cx} {ρ : Rho} {M : Mem} {E : DE} {a b c e : Expr} {es : List Expr} {da db dc d : Dt} {ds : List Dt} {pos : Pos} {i j : Int} {st : Stmt} {sts rest : List Stmt}
theorem we_p {Ψ : Dt → Mem → Prop} (h : ED T X e ρ d) (k : Ψ d M) : WE T X e ρ M Ψ := fun F H σ Q f s m q => h F H σ Q f s fun v F' H' f' s' r' => q v d M F' H' k (Reach.pure m f' s') r'
theorem wt_p {Ψ : Bool → Mem → Prop} {t : Bool} (h : TD T X e ρ t) (k : Ψ t M) : WT T X e ρ M Ψ := fun F H σ Q f s m q => h F H σ Q f s fun F' H' f' s' => q t M F' H' k (Reach.pure m f' s')
theorem wa_p {Ψ : List Dt → Mem → Prop} (h : AD T X es ρ ds) (k : Ψ ds M) : WA T X es ρ M Ψ := fun F H σ Q f s m q => h F H σ Q f s fun v F' H' f' s' r' => q v ds M F' H' k (Reach.pure m f' s') r'
theorem WE.mono {Ψ Ψ' : Dt → Mem → Prop} (h : WE T X e ρ M Ψ) (k : ∀ d M', Ψ d M' → Ψ' d M') : WE T X e ρ M Ψ' := fun F H σ Q f s m q => h F H σ Q f s m fun v d M' F' H' p => q v d M' F' H' (k d M' p)
theorem WT.mono {Ψ Ψ' : Bool → Mem → Prop} (h : WT T X e ρ M Ψ) (k : ∀ d M', Ψ d M' → Ψ' d M') : WT T X e ρ M Ψ' := fun F H σ Q f s m q => h F H σ Q f s m fun d M' F' H' p => q d M' F' H' (k d M' p)
/-- states reached, slots told of -/
theorem Slots.at_reach {K : PySem.W.Frag} {F H F1 H1 : Hp} {M1 : Mem} {σ : L2.St} (s : Slots K F σ ρ) (r : Reach T K M F H M1 F1 H1) : Slots K F1 σ ρ := s.mono r.stp.ff
theorem we_b {op : Operator} {r : R2} {Ψa Ψ : Dt → Mem → Prop} (ho : OpR X (binaryOp op) r) (ha : WE T X a ρ M Ψa) (hb : ∀ da M1, Ψa da M1 → WE T X b ρ M1 fun db M2 => ∃ d, OD T X.K r da db d ∧ Ψ d M2) : WE T X (.BinOp a op b pos) ρ M Ψ := fun F H σ Q f s m k =>
  PE_w (pe_op ho pe_w pe_w) (ha F H σ _ f s m fun x da M1 F1 H1 p1 q1 r1 => hb da M1 p1 F1 H1 σ _ q1.fine (s.at_reach q1) q1.mem fun y db M2 F2 H2 ⟨d, hd, p2⟩ q2 r2 =>
    hd F2 H2 x y Q q2.fine (r1.mono q2.stp.ff) r2 fun v F3 H3 f3 s3 r3 => k v d M2 F3 H3 p2 ((q1.trans q2).trans (Reach.pure q2.mem f3 s3)) r3)
theorem we_add {Ψa Ψ : Dt → Mem → Prop} (ha : WE T X a ρ M Ψa) (hb : ∀ da M1, Ψa da M1 → WE T X b ρ M1 fun db M2 => ∃ i j, da = .int i ∧ db = .int j ∧ Ψ (.int (i + j)) M2) : WE T X (.BinOp a .Add b pos) ρ M Ψ :=
  we_b op_add ha fun da M1 p => (hb da M1 p).mono fun db M2 ⟨i, j, e1, e2, q⟩ => ⟨_, by subst e1 e2; exact od_I0 fun F => rp_int.mpr rfl, q⟩
theorem we_sub {Ψa Ψ : Dt → Mem → Prop} (ha : WE T X a ρ M Ψa) (hb : ∀ da M1, Ψa da M1 → WE T X b ρ M1 fun db M2 => ∃ i j, da = .int i ∧ db = .int j ∧ Ψ (.int (i - j)) M2) : WE T X (.BinOp a .Sub b pos) ρ M Ψ :=
  we_b op_sub ha fun da M1 p => (hb da M1 p).mono fun db M2 ⟨i, j, e1, e2, q⟩ => ⟨_, by subst e1 e2; exact od_I0 fun F => rp_int.mpr rfl, q⟩
/-- one factor small -/
theorem we_mul {Ψa Ψ : Dt → Mem → Prop} (ha : WE T X a ρ M Ψa) (hb : ∀ da M1, Ψa da M1 → WE T X b ρ M1 fun db M2 => ∃ i j, da = .int i ∧ db = .int j ∧ (-(2 ^ 64) < i ∧ i < 2 ^ 64 ∨ -(2 ^ 64) < j ∧ j < 2 ^ 64) ∧ Ψ (.int (i * j)) M2) : WE T X (.BinOp a .Mult b pos) ρ M Ψ :=
  we_b op_mul ha fun da M1 p => (hb da M1 p).mono fun db M2 ⟨i, j, e1, e2, q0, q⟩ => ⟨_, by subst e1 e2; exact od_I q0 fun F => rp_int.mpr rfl, q⟩
theorem we_cmp {op : CmpOp} {Ψa Ψ : Dt → Mem → Prop} (ha : WE T X a ρ M Ψa) (hb : ∀ da M1, Ψa da M1 → WE T X b ρ M1 fun db M2 => ∃ t, KD T X op da db t ∧ Ψ (.bl t) M2) (hm : behindInMarks op b = false := by first | exact nomark _ | rfl)
    (one : ∃ r, OpR X (compareOp op) r ∧ ∀ da db t, KD T X op da db t → OD T X.K r da db (.bl t)) : WE T X (.Compare a [op] [b] pos) ρ M Ψ := by
  obtain ⟨r, ho, hk⟩ := one
  exact fun F H σ Q f s m k =>
    PE_w (pe_cmpR ho pe_w pe_w hm) (ha F H σ _ f s m fun x da M1 F1 H1 p1 q1 r1 => hb da M1 p1 F1 H1 σ _ q1.fine (s.at_reach q1) q1.mem fun y db M2 F2 H2 ⟨t, hd, p2⟩ q2 r2 =>
      hk da db t hd F2 H2 x y Q q2.fine (r1.mono q2.stp.ff) r2 fun v F3 H3 f3 s3 r3 => k v _ M2 F3 H3 p2 ((q1.trans q2).trans (Reach.pure q2.mem f3 s3)) r3)
/-- e == n, e an int that is drawn -/
theorem we_eqI {Ψa Ψ : Dt → Mem → Prop} (ha : WE T X a ρ M Ψa) (hb : ∀ da M1, Ψa da M1 → ∃ i j, da = .int i ∧ ED T X b ρ (.int j) ∧ Ψ (.bl (decide (i = j))) M1) : WE T X (.Compare a [.Eq] [b] pos) ρ M Ψ := fun F H σ Q f s m k =>
  PE_w (pe_cmpR op_eq pe_w pe_w (nomark _)) (ha F H σ _ f s m fun x da M1 F1 H1 p1 q1 r1 => by
    obtain ⟨i, j, e1, hb, p2⟩ := hb da M1 p1
    subst e1
    refine hb F1 H1 σ _ q1.fine (s.at_reach q1) fun y F2 H2 f2 s2 r2 => ?_
    rw [rp_int.mp r1, rp_int.mp r2]
    exact ⟨rfl, k _ _ M1 F2 H2 p2 (q1.trans (Reach.pure q1.mem f2 s2)) (rp_bl.mpr (by rw [vint_eq]))⟩)
theorem wt_eqI {Ψa : Dt → Mem → Prop} {Ψ : Bool → Mem → Prop} (ha : WE T X a ρ M Ψa) (hb : ∀ da M1, Ψa da M1 → ∃ i j, da = .int i ∧ ED T X b ρ (.int j) ∧ Ψ (decide (i = j)) M1) : WT T X (.Compare a [.Eq] [b] pos) ρ M Ψ := fun F H σ Q f s m k =>
  PT_w (pt_cmpR op_eq pe_w pe_w (nomark _)) (ha F H σ _ f s m fun x da M1 F1 H1 p1 q1 r1 => by
    obtain ⟨i, j, e1, hb, p2⟩ := hb da M1 p1
    subst e1
    refine hb F1 H1 σ _ q1.fine (s.at_reach q1) fun y F2 H2 f2 s2 r2 => ?_
    rw [rp_int.mp r1, rp_int.mp r2]
    exact ⟨rfl, _, rfl, by rw [vint_eq]; exact k _ M1 F2 H2 p2 (q1.trans (Reach.pure q1.mem f2 s2))⟩)
theorem wa_nil {Ψ : List Dt → Mem → Prop} (h : Ψ [] M) : WA T X [] ρ M Ψ := wa_p ad_nil h
theorem wa_cons {Ψa : Dt → Mem → Prop} {Ψ : List Dt → Mem → Prop} (ha : WE T X e ρ M Ψa) (hs : ∀ d M1, Ψa d M1 → WA T X es ρ M1 fun ds M2 => Ψ (d :: ds) M2) (hst : starEach (e :: es) X.env = (false, eval e X.env) :: starEach es X.env := by exact st_any rfl) : WA T X (e :: es) ρ M Ψ := fun F H σ Q f s m k =>
  PA_w (pa_cons pe_w pa_w hst) (ha F H σ _ f s m fun x d M1 F1 H1 p1 q1 r1 => hs d M1 p1 F1 H1 σ _ q1.fine (s.at_reach q1) q1.mem fun xs ds M2 F2 H2 p2 q2 r2 => k _ _ M2 F2 H2 p2 (q1.trans q2) (.cons (r1.mono q2.stp.ff) r2))
theorem we_tup {x1} {Ψ : Dt → Mem → Prop} (h : WA T X es ρ M fun ds M' => ds.length ≤ sizeLine ∧ Ψ (.tup ds) M') : WE T X (.Tuple es x1 pos) ρ M Ψ := fun F H σ Q f s m k =>
  PE_w (pe_tup pa_w) (h F H σ _ f s m fun xs ds M1 F1 H1 ⟨hl, p1⟩ q1 r1 => ⟨by rw [r1.length]; exact hl, fun p hp => by
    obtain ⟨f', s', r'⟩ := cat_new hp q1.fine r1
    exact k _ _ M1 _ _ p1 (q1.trans (Reach.pure q1.mem f' s')) r'⟩)
theorem we_lst {Ψ : Dt → Mem → Prop} (h : WA T X es ρ M fun ds M' => ds.length ≤ sizeLine ∧ Ψ (.lst ds) M') : WE T X (.List es pos) ρ M Ψ := fun F H σ Q f s m k =>
  PE_w (pe_lst pa_w) (h F H σ _ f s m fun xs ds M1 F1 H1 ⟨hl, p1⟩ q1 r1 => ⟨by rw [r1.length]; exact hl, fun p hp => by
    obtain ⟨f', s', r'⟩ := lst_new hp q1.fine r1
    exact k _ _ M1 _ _ p1 (q1.trans (Reach.pure q1.mem f' s')) r'⟩)
/-- a[i] of a list that is at hand -/
theorem we_ixL {Ψa Ψ : Dt → Mem → Prop} (ha : WE T X a ρ M Ψa) (hb : ∀ da M1, Ψa da M1 → WE T X b ρ M1 fun db M2 => ∃ ds i d, da = .lst ds ∧ db = .int i ∧ atI ds i = some d ∧ Ψ d M2) (hp : PlainIx b := by intro _ _; rfl) : WE T X (.Subscript a b pos) ρ M Ψ := fun F H σ Q f s m k =>
  PE_w (pe_ix ix_list pe_w pe_w hp) (ha F H σ _ f s m fun x da M1 F1 H1 p1 q1 r1 => hb da M1 p1 F1 H1 σ _ q1.fine (s.at_reach q1) q1.mem fun y db M2 F2 H2 ⟨ds, i, d, e1, e2, hi, p2⟩ q2 r2 => by
    subst e1 e2
    obtain ⟨p, us, e1, h1, z1⟩ := rp_lst.mp (r1.mono q2.stp.ff)
    obtain ⟨v, hv, rv⟩ := atI_rps z1 hi
    exact ⟨p, us, i, v, e1, rp_int.mp r2, SqL.of (q2.fine.sub _ _ h1), hv, k v d M2 F2 H2 p2 (q1.trans q2) rv⟩)
theorem we_ixT {Ψa Ψ : Dt → Mem → Prop} (ha : WE T X a ρ M Ψa) (hb : ∀ da M1, Ψa da M1 → WE T X b ρ M1 fun db M2 => ∃ ds i d, da = .tup ds ∧ db = .int i ∧ atI ds i = some d ∧ Ψ d M2) (hp : PlainIx b := by intro _ _; rfl) : WE T X (.Subscript a b pos) ρ M Ψ := fun F H σ Q f s m k =>
  PE_w (pe_ix ix_tup pe_w pe_w hp) (ha F H σ _ f s m fun x da M1 F1 H1 p1 q1 r1 => hb da M1 p1 F1 H1 σ _ q1.fine (s.at_reach q1) q1.mem fun y db M2 F2 H2 ⟨ds, i, d, e1, e2, hi, p2⟩ q2 r2 => by
    subst e1 e2
    obtain ⟨p, us, e1, h1, z1⟩ := rp_tup.mp (r1.mono q2.stp.ff)
    obtain ⟨v, hv, rv⟩ := atI_rps z1 hi
    exact ⟨p, us, i, v, e1, rp_int.mp r2, ex_t q2.fine.sub h1, hv, k v d M2 F2 H2 p2 (q1.trans q2) rv⟩)
/-- a pure call or operation behind arguments that draw -/
theorem we_b1 {x : Str} {p : Pos} {Ψ : Dt → Mem → Prop} (hm : X.mg x = none) (hg : Gl X x) (ha : WA T X (e :: es) ρ M fun ds M' => ∃ d, BD T X x ds d ∧ Ψ d M') (one : (∃ id r, CallR X (.builtin id) r ∧ bootBuiltins x = some (.builtin id) ∧ ∀ ds d, BD T X x ds d → CD T X.K r ds d) ∨ ∃ id r, CallR X (.type id) r ∧ bootBuiltins x = some (.type id) ∧ ∀ ds d, BD T X x ds d → CD T X.K r ds d)
    (hn : x ≠ "__name__" := by decide) (hdb : (x == ("__debug__" : Str)) = false := by decide)
    (he : starEach (e :: es) X.env = (false, eval e X.env) :: starEach es X.env := by exact st_any rfl) (hpl : (backTo pos (starEach es X.env)).any (·.1) = false := by rfl) : WE T X (.Call (.Name x p) (e :: es) [] pos) ρ M Ψ := fun F H σ Q f s m k => by
  rcases one with ⟨id, r, hc, hv, h⟩ | ⟨id, r, hc, hv, h⟩
  · exact PE_w (pe_callB hc hg hm hv pa_w hn hdb he hpl) (ha F H σ _ f s m fun vs ds M1 F1 H1 ⟨d, hd, p1⟩ q1 r1 => h ds d hd F1 H1 vs Q q1.fine r1 fun v F2 H2 f2 s2 r2 => k v d M1 F2 H2 p1 (q1.trans (Reach.pure q1.mem f2 s2)) r2)
  · exact PE_w (pe_callTy hc hg hm hv pa_w hn hdb he hpl) (ha F H σ _ f s m fun vs ds M1 F1 H1 ⟨d, hd, p1⟩ q1 r1 => h ds d hd F1 H1 vs Q q1.fine r1 fun v F2 H2 f2 s2 r2 => k v d M1 F2 H2 p1 (q1.trans (Reach.pure q1.mem f2 s2)) r2)
/-- int(e), e True or False -/
theorem we_intB {p : Pos} {Ψ : Dt → Mem → Prop} (hm : X.mg "int" = none) (hg : Gl X "int") (ha : WE T X e ρ M fun d M' => ∃ t, d = .bl t ∧ Ψ (.int (if t then 1 else 0)) M')
    (he : starEach [e] X.env = (false, eval e X.env) :: starEach [] X.env := by exact st_any rfl) : WE T X (.Call (.Name "int" p) [e] [] pos) ρ M Ψ := fun F H σ Q f s m k =>
  PE_w (pe_callTy call_int1 hg hm boot_int (pa_cons pe_w pa_nil he) (by decide) (by decide) he) (ha F H σ _ f s m fun v d M1 F1 H1 ⟨t, e1, p1⟩ q1 r1 => by
    subst e1
    exact .inr ⟨t, by rw [rp_bl.mp r1], k _ _ M1 F1 H1 p1 q1 (rp_int.mpr rfl)⟩)
/-- a call of a pure def behind arguments that draw -/
theorem we_call {n : Nat} {x : Str} {ps : List Str} {R : List Dt → Dt → Prop} {p : Pos} {Ψ : Dt → Mem → Prop} (hc : Cal (Cx.wo X) T n x ps R) (hr : Room n X.A) (hg : Gl X x) (ha : WA T X (e :: es) ρ M fun ds M' => ds.length = ps.length ∧ ∃ d, R ds d ∧ Ψ d M') (hdb : (x == ("__debug__" : Str)) = false := by decide)
    (he : starEach (e :: es) X.env = (false, eval e X.env) :: starEach es X.env := by exact st_any rfl) (hpl : (backTo pos (starEach es X.env)).any (·.1) = false := by rfl) : WE T X (.Call (.Name x p) (e :: es) [] pos) ρ M Ψ := fun F H σ Q f s m kk => by
  obtain ⟨f0, fd, F0, hm, hk, hb⟩ := hc.ex
  refine PE_w (pe_call (E := E0) F0 hr hg hm hk hb .nil pass0 pa_w hdb he hpl) ?_
  refine ha F H σ _ f s m fun vs ds M1 F1 H1 ⟨hl, d, g, p1⟩ q1 r1 => ?_
  show spR T X.K ps.length R (vs ++ []) H1 Q _
  rw [List.append_nil]
  exact ⟨by rw [r1.length]; exact hl, F1, ds, d, q1.fine, r1, g, fun v F2 H2 f2 s2 r2 => kk v d M1 F2 H2 p1 (q1.trans (Reach.pure q1.mem f2 s2)) r2⟩

/-! ### tests that draw -/
theorem wt_not {Ψ : Bool → Mem → Prop} (h : WT T X a ρ M fun t M' => Ψ (!t) M') : WT T X (.UnaryOp .Not a pos) ρ M Ψ := fun F H σ Q f s m k => PT_w (pt_not pt_w) (h F H σ _ f s m fun b M' F1 H1 p q => k _ M' F1 H1 p q)
theorem ww_and1 {Ψ : Bool → Mem → Prop} (h : WT T X a ρ M Ψ) : WW T X (.BoolOp .And [a] pos) ρ M Ψ := fun F H σ Q f s m k => PW_w (pw_and1 pt_w) (h F H σ _ f s m k)
theorem ww_and {Ψ : Bool → Mem → Prop} {rest : List Expr} (h : WT T X a ρ M fun t M' => if t = true then WW T X (.BoolOp .And (b :: rest) pos) ρ M' Ψ else Ψ false M') : WW T X (.BoolOp .And (a :: b :: rest) pos) ρ M Ψ := fun F H σ Q f s m k =>
  PW_w (pw_and pt_w pw_w) (h F H σ _ f s m fun t M1 F1 H1 p q => by
    cases t with
    | true => exact iteT ((show WW T X (.BoolOp .And (b :: rest) pos) ρ M1 Ψ by simpa using p) F1 H1 σ _ q.fine (s.at_reach q) q.mem fun t' M2 F2 H2 p2 q2 => k t' M2 F2 H2 p2 (q.trans q2))
    | false => exact iteF (k false M1 F1 H1 (by simpa using p) q))
theorem wt_w {Ψ : Bool → Mem → Prop} (h : WW T X e ρ M Ψ) : WT T X e ρ M Ψ := fun F H σ Q f s m k => PT_w (PW.pt pw_w) (h F H σ _ f s m k)

/-! ### statements -/
theorem ws_nil (h : E.nx ρ M) : WS T X [] ρ M E := fun F H σ D f s m k => PSs_w pss_nil (k.nx σ ρ M F H h (Reach.refl f m) s)
theorem ws_cons (h : W1 T X st ρ M { E with nx := fun ρ' M' => WS T X rest ρ' M' E }) : WS T X (st :: rest) ρ M E := fun F H σ D f s m k =>
  PSs_w (pss_cons ps_w pss_w) (h F H σ { D with nx := fun σ' H' => wSs X rest D σ' H' } f s m
    ⟨fun σ' ρ' M' F' H' e q s' => e F' H' σ' D q.fine s' q.mem (k.after q), k.rt, k.bk, k.ct⟩)
theorem ws_one (h : W1 T X st ρ M E) : WS T X [st] ρ M E := fun F H σ D f s m k => PSs_w (pss_one ps_w) (h F H σ D f s m k)
theorem ws_never (h : False) : WS T X sts ρ M E := h.elim
theorem w1_pass (h : E.nx ρ M) : W1 T X (.Pass pos) ρ M E := fun F H σ D f s m k => PS_w ps_pass (k.nx σ ρ M F H h (Reach.refl f m) s)
theorem w1_ret (h : WE T X e ρ M E.rt) : W1 T X (.Return (some e) pos) ρ M E := fun F H σ D f s m k => PS_w (ps_ret pe_w) (h F H σ _ f s m fun v d M' F' H' p q r => k.rt v d M' F' H' p q r)
theorem w1_retp (h : ED T X e ρ d) (k : E.rt d M) : W1 T X (.Return (some e) pos) ρ M E := w1_ret (we_p h k)
theorem w1_if (h : WT T X c ρ M fun t M' => if t = true then WS T X sts ρ M' E else WS T X rest ρ M' E) : W1 T X (.If c sts rest pos) ρ M E := fun F H σ D f s m k =>
  PS_w (ps_if pt_w pss_w pss_w) (h F H σ _ f s m fun t M1 F1 H1 p q => by
    cases t with
    | true => exact iteT ((show WS T X sts ρ M1 E by simpa using p) F1 H1 σ D q.fine (s.at_reach q) q.mem (k.after q))
    | false => exact iteF ((show WS T X rest ρ M1 E by simpa using p) F1 H1 σ D q.fine (s.at_reach q) q.mem (k.after q)))
theorem w1_ifp {t : Bool} (h : TD T X c ρ t) (h1 : t = true → WS T X sts ρ M E) (h2 : t = false → WS T X rest ρ M E) : W1 T X (.If c sts rest pos) ρ M E := w1_if (wt_p h (by
  cases t with
  | true => exact iteT (h1 rfl)
  | false => exact iteF (h2 rfl)))
theorem w1_ifF (h : TD T X c ρ false) (h2 : WS T X rest ρ M E) : W1 T X (.If c sts rest pos) ρ M E := w1_ifp h (fun z => by cases z) fun _ => h2
theorem w1_ifT (h : TD T X c ρ true) (h1 : WS T X sts ρ M E) : W1 T X (.If c sts rest pos) ρ M E := w1_ifp h (fun _ => h1) fun z => by cases z
theorem w1_expr (h : WE T X e ρ M fun _ M' => E.nx ρ M') (hs : swapsWith e none pos.line X.env = pure false := by rfl) : W1 T X (.Expr e pos) ρ M E := fun F H σ D f s m k =>
  PS_w (ps_expr pe_w hs) (h F H σ _ f s m fun v d M1 F1 H1 p q r => k.nx σ ρ M1 F1 H1 p q (s.at_reach q))
variable {ix : Nat} {x : Str} {px : Pos}
theorem w1_set (h : WE T X e ρ M fun d M' => E.nx (ρ.set ix (some d)) M') (hN : X.N.Nodup) (hi : X.N[ix]? = some x) (hx : Loc X.env.scope x) (hs : swapsWith e (some (.Name x px)) pos.line X.env = pure false := by rfl) (hf : X.fn x = true ∨ X.env.scope.names.lookup x = some .local := by first | exact .inl rfl | exact .inr rfl) :
    W1 T X (.Assign [.Name x px] e pos) ρ M E := fun F H σ D f s m k =>
  PS_w (ps_set hN hi hx pe_w hs hf) (h F H σ _ f s m fun v d M1 F1 H1 p q r => k.nx _ _ M1 F1 H1 p q ((s.at_reach q).set r))
theorem w1_setp (h : ED T X e ρ d) (k : E.nx (ρ.set ix (some d)) M) (hN : X.N.Nodup) (hi : X.N[ix]? = some x) (hx : Loc X.env.scope x) (hs : swapsWith e (some (.Name x px)) pos.line X.env = pure false := by rfl) (hf : X.fn x = true ∨ X.env.scope.names.lookup x = some .local := by first | exact .inl rfl | exact .inr rfl) :
    W1 T X (.Assign [.Name x px] e pos) ρ M E := w1_set (we_p h k) hN hi hx hs hf
/-- a, b = e, f by swapped stores: both plain locals -/
theorem w1_par {i j : Nat} {y : Str} {py pt : Pos} {kt k2 pt2} (h : WA T X [a, b] ρ M fun ds M' => ∃ d d', ds = [d, d'] ∧ E.nx ((ρ.set i (some d)).set j (some d')) M') (hc : X.calm = true) (hN : X.N.Nodup) (hi : X.N[i]? = some x) (hj : X.N[j]? = some y) (hij : i ≠ j)
    (hx : X.env.scope.names.lookup x = some .local) (hy : X.env.scope.names.lookup y = some .local)
    (hw : swappedStores [.Tuple [.Name x px, .Name y py] kt pt] (.Tuple [a, b] k2 pt2) X.env = pure (some [x, y]))
    (hs : swapsWithSole [.Tuple [.Name x px, .Name y py] kt pt] (.Tuple [a, b] k2 pt2) pos.line X.env = pure false := by rfl) : W1 T X (.Assign [.Tuple [.Name x px, .Name y py] kt pt] (.Tuple [a, b] k2 pt2) pos) ρ M E := fun F H σ D f s m k =>
  PS_w (ps_par hc hN hi hj hij hx hy pa_w hw hs) (h F H σ _ f s m fun vs ds M1 F1 H1 ⟨d, d', e1, p⟩ q r => by
    subst e1
    obtain ⟨v, v', e2, r1, r2⟩ := vs2 r
    exact ⟨v, v', e2, k.nx _ _ M1 F1 H1 p q (((s.at_reach q).set r1).set r2)⟩)
/-- several names from a tuple -/
inductive Tg (X : Cx) : List Expr → List Nat → Prop where
  | nil : Tg X [] []
  | cons {i : Nat} {is : List Nat} {x : Str} {p : Pos} {es : List Expr} (hN : X.N.Nodup) (hi : X.N[i]? = some x) (hx : Loc X.env.scope x) (hf : X.fn x = true ∨ X.env.scope.names.lookup x = some .local)
      (hs : (assignEach (.Name x p :: es) X.env).map (·.2) = assign (.Name x p) X.env :: (assignEach es X.env).map (·.2)) (t : Tg X es is) : Tg X (.Name x p :: es) (i :: is)
def setAll (ρ : Rho) : List Nat → List Dt → Rho
  | i :: is, d :: ds => setAll (ρ.set i (some d)) is ds
  | _, _ => ρ
def gAll : List Nat → TGs
  | [] => gNil
  | i :: is => gCons (gName i) (gAll is)
theorem Tg.pgs {es : List Expr} {is : List Nat} (t : Tg X es is) : PGs X es (gAll is) := by
  induction t with
  | nil => exact pgs_nil
  | cons hN hi hx hf hs t ih => exact pgs_cons (pg_name hN hi hx hf) ih hs
theorem gAll_ok {K : PySem.W.Frag} {F H : Hp} {Q : L2.St → Hp → Prop} : ∀ {is : List Nat} {vs : List V} {ds : List Dt} {σ : L2.St} {ρ : Rho}, Slots K F σ ρ → Rps K F vs ds → is.length = ds.length → (∀ σ', Slots K F σ' (setAll ρ is ds) → Q σ' H) → gAll is vs σ H Q
  | [], _, [], σ, ρ, s, r, _, k => ⟨rps_nil.mp r, k σ s⟩
  | i :: is, _, d :: ds, σ, ρ, s, r, l, k => by
    obtain ⟨v, w, e, r1, r2⟩ := rps_cons.mp r
    exact ⟨v, w, e, gAll_ok (s.set r1) r2 (by simpa using l) k⟩
  | [], _, _ :: _, _, _, _, _, l, _ => by simp at l
  | _ :: _, _, [], _, _, _, _, l, _ => by simp at l
theorem w1_unp {ts : List Expr} {is : List Nat} {kt : Nat} {pt : Pos} (h : WE T X e ρ M fun d M' => ∃ ds, d = .tup ds ∧ is.length = ds.length ∧ E.nx (setAll ρ is ds) M') (hc : X.calm = true) (t : Tg X ts is)
    (hn : (assignEach ts X.env).length = is.length := by rfl) (hst : (assignEach ts X.env).findIdx? (·.1) = none := by rfl)
    (hs : swapsWithSole [.Tuple ts kt pt] e pos.line X.env = pure false := by rfl) (hw : swappedStores [.Tuple ts kt pt] e X.env = pure none := by rfl) (h1 : (assignEach [.Tuple ts kt pt] X.env).map (·.2) = [assign (.Tuple ts kt pt) X.env] := by rfl) :
    W1 T X (.Assign [.Tuple ts kt pt] e pos) ρ M E := fun F H σ D f s m k =>
  PS_w (ps_asg pe_w (pg_tup hc t.pgs hn hst) hs hw h1) (h F H σ _ f s m fun v d M1 F1 H1 ⟨ds, e1, hl, p⟩ q r => by
    subst e1
    obtain ⟨a, vs, e2, hq, hr⟩ := rp_tup.mp r
    exact ⟨a, vs, e2, ex_t q.fine.sub hq, by rw [hr.length, hl], gAll_ok (s.at_reach q) hr hl fun σ' s' => k.nx _ _ M1 F1 H1 p q s'⟩)
theorem w1_unpp {ts : List Expr} {is : List Nat} {kt : Nat} {pt : Pos} (h : ED T X e ρ (.tup ds)) (hl : is.length = ds.length) (k : E.nx (setAll ρ is ds) M) (hc : X.calm = true) (t : Tg X ts is)
    (hn : (assignEach ts X.env).length = is.length := by rfl) (hst : (assignEach ts X.env).findIdx? (·.1) = none := by rfl)
    (hs : swapsWithSole [.Tuple ts kt pt] e pos.line X.env = pure false := by rfl) (hw : swappedStores [.Tuple ts kt pt] e X.env = pure none := by rfl) (h1 : (assignEach [.Tuple ts kt pt] X.env).map (·.2) = [assign (.Tuple ts kt pt) X.env] := by rfl) :
    W1 T X (.Assign [.Tuple ts kt pt] e pos) ρ M E := w1_unp (we_p h ⟨ds, rfl, hl, k⟩) hc t hn hst hs hw h1

/-! ### the memory told otherwise -/
theorem MemOk.eraseIdx {K : PySem.W.Frag} {F H : Hp} (m : MemOk K F H M) (n : Nat) : MemOk K F H (M.eraseIdx n) := by
  refine ⟨?_, fun p hp => m.out p (List.mem_of_mem_eraseIdx hp), fun p hp => m.at_ p (List.mem_of_mem_eraseIdx hp)⟩
  exact m.nd.sublist ((List.eraseIdx_sublist M n).map _)
/-- a list that is not changed any more -/
theorem ws_freeze {n ix : Nat} {q : Addr} {ds : List Dt} (hM : M[n]? = some (q, .lst ds)) (hρ : ρ[ix]? = some (some (.adr q))) (h : WS T X sts (ρ.set ix (some (.lst ds))) (M.eraseIdx n) E) : WS T X sts ρ M E := fun F H σ D f s m k => by
  have hq : (q, MO.lst ds) ∈ M := List.mem_of_getElem? hM
  obtain ⟨vs, hv, rv⟩ := (m.at_ _ hq : ObjIs X.K F H q (.lst ds))
  have fq : F q = none := m.out _ hq
  have eF : Ex F (upd F q (.lst vs)) := Ex.new fq
  have f1 : Fine T (upd F q (.lst vs)) H := by
    refine ⟨fun a u h => ?_, f.tab, fun a ps h => ?_, f.bs.trans eF⟩
    · by_cases e : a = q
      · subst e; rw [upd_same] at h; rw [← Option.some.inj h]; exact hv
      · rw [upd_ne e] at h; exact f.sub a u h
    · by_cases e : a = q
      · subst e; rw [upd_same] at h; cases h
      · rw [upd_ne e] at h; exact f.nt a ps h
  have rq : Rp X.K (upd F q (.lst vs)) (.ref q) (.lst ds) := rp_lst.mpr ⟨q, vs, rfl, upd_same, rv.mono eF⟩
  have ne : ∀ p ∈ M.eraseIdx n, p.1 ≠ q := fun p hp e => by
    obtain ⟨j, hj, hjn⟩ : ∃ j, M[j]? = some p ∧ j ≠ n := by
      obtain ⟨j, hj⟩ := List.mem_iff_getElem?.mp hp
      rw [List.getElem?_eraseIdx] at hj
      by_cases hlt : j < n
      · rw [if_pos hlt] at hj; exact ⟨j, hj, by omega⟩
      · rw [if_neg hlt] at hj; exact ⟨j + 1, hj, by omega⟩
    have a1 : (dom M)[j]? = some q := by rw [List.getElem?_map, hj]; simp [e]
    have a2 : (dom M)[n]? = some q := by rw [List.getElem?_map, hM]; rfl
    exact hjn (nd_ix m.nd a1 a2)
  have m1 : MemOk X.K (upd F q (.lst vs)) H (M.eraseIdx n) := by
    refine ⟨(m.eraseIdx n).nd, fun p hp => ?_, fun p hp => ?_⟩
    · rw [upd_ne (ne p hp)]; exact (m.eraseIdx n).out p hp
    · exact ((m.eraseIdx n).at_ p hp : ObjIs _ _ _ _ _).keep eF fun u e => e
  have r1 : Reach T X.K M F H (M.eraseIdx n) (upd F q (.lst vs)) H := by
    refine ⟨⟨eF, fun a o _ h _ => h, fun a o ha _ _ fa => ?_⟩, f1, m1, fun a ha => .inl ?_⟩
    · rw [upd_ne (fun e => ha (by subst e; exact List.mem_map.mpr ⟨_, hq, rfl⟩))]; exact fa
    · obtain ⟨p, hp, e⟩ := List.mem_map.mp ha
      exact List.mem_map.mpr ⟨p, List.mem_of_mem_eraseIdx hp, e⟩
  -- the slot holds the list as before
  have s1 : Slots X.K (upd F q (.lst vs)) σ (ρ.set ix (some (.lst ds))) := by
    have s0 := s.mono eF
    refine ⟨by rw [List.length_set]; exact s0.len, fun j d hj => ?_⟩
    by_cases hji : ix = j
    · subst hji
      have hl : ix < ρ.length := (List.getElem?_eq_some_iff.mp hρ).1
      rw [List.getElem?_set_self hl] at hj
      cases hj
      obtain ⟨v, a1, a2⟩ := s0.at_ ix _ hρ
      rw [rp_adr.mp a2] at a1
      exact ⟨_, a1, rq⟩
    · rw [List.getElem?_set_ne hji] at hj
      exact s0.at_ j d hj
  exact h _ H σ D f1 s1 m1 (k.after r1)
end
end BL
set_option maxHeartbeats 4000000
/-! Foundation, part 5: what is walked; for; comprehensions; while. -/
namespace BL
open PySem PySem.Spec PyProof.Rows L2 Evl RT

/-! ### targets -/
def TgOk (X : Cx) (tg : Expr) (st : Rho → Dt → Option Rho) : Prop := ∃ g, PG X tg g ∧ ∀ (T : Tb) (F H : Hp) (σ : L2.St) (ρ ρ' : Rho) (v : V) (d : Dt) (Q : L2.St → Hp → Prop), Fine T F H → Slots X.K F σ ρ → Rp X.K F v d → st ρ d = some ρ' → (∀ σ', Slots X.K F σ' ρ' → Q σ' H) → g v σ H Q
def stN (j : Nat) : Rho → Dt → Option Rho := fun ρ d => some (ρ.set j (some d))
def stT (is : List Nat) : Rho → Dt → Option Rho := fun ρ d => match d with
  | .tup ds => if is.length = ds.length then some (setAll ρ is ds) else none
  | _ => none
section
variable {T : Tb} {X : Cx}
theorem tg_n {j : Nat} {x : Str} {p : Pos} (hN : X.N.Nodup) (hi : X.N[j]? = some x) (hx : Loc X.env.scope x) (hf : X.fn x = true ∨ X.env.scope.names.lookup x = some .local := by first | exact .inl rfl | exact .inr rfl) : TgOk X (.Name x p) (stN j) :=
  ⟨_, pg_name hN hi hx hf, fun T F H σ ρ ρ' v d Q f s r e k => by
    cases e
    exact k _ (s.set r)⟩
theorem tg_t {ts : List Expr} {is : List Nat} {kt : Nat} {pt : Pos} (hc : X.calm = true) (t : Tg X ts is) (hn : (assignEach ts X.env).length = is.length := by rfl) (hst : (assignEach ts X.env).findIdx? (·.1) = none := by rfl) : TgOk X (.Tuple ts kt pt) (stT is) :=
  ⟨_, pg_tup hc t.pgs hn hst, fun T F H σ ρ ρ' v d Q f s r e k => by
    cases d with
    | tup ds =>
      have e' : (if is.length = ds.length then some (setAll ρ is ds) else none) = some ρ' := e
      by_cases hl : is.length = ds.length
      · rw [if_pos hl] at e'
        cases e'
        obtain ⟨a, vs, e2, hq, hr⟩ := rp_tup.mp r
        exact ⟨a, vs, e2, ex_t f.sub hq, by rw [hr.length, hl], gAll_ok s hr hl k⟩
      · rw [if_neg hl] at e'
        cases e'
    | _ => cases e⟩
end

/-! ### what is walked -/
/-- J gives the items ds one by one, whatever is frozen besides; F1: what it leans on -/
structure Wk (T : Tb) (K : PySem.W.Frag) (F1 : Hp) (J : It) (ds : List Dt) : Prop where
  ex : ∃ Y, Walk J ds.length (fun H => Ex F1 H) Y ∧ ∀ i d Hc x Hc', ds[i]? = some d → Y i Hc x Hc' → ∀ F', Fine T F' Hc → Ex F1 F' → ∃ F'', Fine T F'' Hc' ∧ Stp [] F' Hc F'' Hc' ∧ Rp K F'' x d
def wI (X : Cx) (tg iter : Expr) : TI := fun σ H R => ∃ wi, PI X tg iter wi ∧ wi σ H R
theorem pi_w {X : Cx} {tg iter : Expr} : PI X tg iter (wI X tg iter) := ⟨fun pins s σ H R I h => by
  obtain ⟨wi, h1, h2⟩ := h
  exact h1.run pins s σ H R I h2⟩
def IW (T : Tb) (X : Cx) (tg iter : Expr) (ρ : Rho) (M : Mem) (Ψ : List Dt → Mem → Prop) : Prop := ∀ (F H : Hp) (σ : L2.St) (R : It → Hp → Prop), Fine T F H → Slots X.K F σ ρ → MemOk X.K F H M →
  (∀ J ds M1 F1 H1, Ψ ds M1 → Reach T X.K M F H M1 F1 H1 → Wk T X.K F1 J ds → R J H1) → wI X tg iter σ H R
section
variable {T : Tb} {X : Cx} {tg : Expr} {ρ : Rho} {M : Mem} {e a b : Expr} {Ψ : List Dt → Mem → Prop} {p pos : Pos}
theorem wk_same {K : PySem.W.Frag} {F1 : Hp} {J : It} {ds : List Dt} {vs : List V} (w : Walk J vs.length (fun H => Ex F1 H) (YAt vs)) (r : Rps K F1 vs ds) : Wk T K F1 J ds :=
  ⟨_, by rw [← r.length]; exact w, fun i d Hc x Hc' hd hy F' f' e' => by
    obtain ⟨rfl, hx⟩ := hy
    obtain ⟨v, h1, h2⟩ := r.get hd
    rw [hx] at h1
    cases h1
    exact ⟨F', f', Stp.refl _ _ _, h2.mono e'⟩⟩
theorem iw_list (h : WE T X e ρ M fun d M' => ∃ ds, d = .lst ds ∧ Ψ ds M') : IW T X tg e ρ M Ψ := fun F H σ R f s m k => ⟨_, pi_list pe_w, h F H σ _ f s m fun v d M1 F1 H1 ⟨ds, e1, p1⟩ q1 r1 => by
  subst e1
  obtain ⟨a, vs, e2, h1, h2⟩ := rp_lst.mp r1
  exact ⟨a, e2, ⟨vs, SqL.of (q1.fine.sub _ _ h1)⟩, k _ ds M1 F1 H1 p1 q1 (wk_same (walk_list.mono (fun H e => SqL.of (e _ _ h1)) fun _ _ _ _ _ _ y => y) h2)⟩⟩
theorem iw_tup (h : WE T X e ρ M fun d M' => ∃ ds, d = .tup ds ∧ Ψ ds M') : IW T X tg e ρ M Ψ := fun F H σ R f s m k => ⟨_, pi_tup pe_w, h F H σ _ f s m fun v d M1 F1 H1 ⟨ds, e1, p1⟩ q1 r1 => by
  subst e1
  obtain ⟨a, vs, e2, h1, h2⟩ := rp_tup.mp r1
  exact ⟨a, e2, ⟨vs, ex_t q1.fine.sub h1⟩, k _ ds M1 F1 H1 p1 q1 (wk_same (walk_tup.mono (fun H e => ex_t e h1) fun _ _ _ _ _ _ y => y) h2)⟩⟩
theorem iw_listp {ds : List Dt} (h : ED T X e ρ (.lst ds)) (k : Ψ ds M) : IW T X tg e ρ M Ψ := iw_list (we_p h ⟨ds, rfl, k⟩)
theorem iw_tupp {ds : List Dt} (h : ED T X e ρ (.tup ds)) (k : Ψ ds M) : IW T X tg e ρ M Ψ := iw_tup (we_p h ⟨ds, rfl, k⟩)
def rgD (lo : Int) (n : Nat) : List Dt := (List.range n).map fun (i : Nat) => .int (lo + (i : Int))
theorem rgD_len {lo : Int} {n : Nat} : (rgD lo n).length = n := by unfold rgD; rw [List.length_map, List.length_range]
theorem rgD_get {lo : Int} {n i : Nat} {d : Dt} (h : (rgD lo n)[i]? = some d) : i < n ∧ d = .int (lo + (i : Int)) := by
  have hi : i < n := by
    have := (List.getElem?_eq_some_iff.mp h).1
    rwa [rgD_len] at this
  unfold rgD at h
  rw [List.getElem?_map, List.getElem?_range hi] at h
  exact ⟨hi, (Option.some.inj h).symm⟩
theorem wk_range {K : PySem.W.Frag} {F1 : Hp} {lo : Int} {n : Nat} : Wk T K F1 (Itr lo n) (rgD lo n) := ⟨_, by rw [rgD_len]; exact walk_range.mono (fun _ _ => trivial) fun _ _ _ _ _ _ y => y, fun i d Hc x Hc' hd hy F' f' e' => by
  obtain ⟨rfl, rfl⟩ := hy
  obtain ⟨_, rfl⟩ := rgD_get hd
  exact ⟨F', f', Stp.refl _ _ _, rp_int.mpr rfl⟩⟩
theorem iw_rng1 (hg : Gl X "range") (hm : X.mg "range" = none) (h : WA T X [a] ρ M fun ds M' => ∃ n : Int, ds = [.int n] ∧ -(2 ^ 62) ≤ n ∧ n < 2 ^ 62 ∧ Ψ (rgD 0 n.toNat) M') (hs : starEach [a] X.env = [(false, eval a X.env)] := by rfl) : IW T X tg (.Call (.Name "range" p) [a] [] pos) ρ M Ψ := fun F H σ R f s m k =>
  ⟨_, pi_range1 hg hm pa_w hs, h F H σ _ f s m fun vs ds M1 F1 H1 ⟨n, e1, b1, b2, p1⟩ q1 r1 => by
    subst e1
    obtain ⟨v, e2, r2⟩ := vs1 r1
    rw [rp_int.mp r2] at e2
    exact ⟨n, e2, b1, b2, k _ _ M1 F1 H1 p1 q1 wk_range⟩⟩
theorem iw_rng2 (hg : Gl X "range") (hm : X.mg "range" = none) (h : WA T X [a, b] ρ M fun ds M' => ∃ lo n : Int, ds = [.int lo, .int n] ∧ (-(2 ^ 62) ≤ lo ∧ lo < 2 ^ 62 ∧ -(2 ^ 62) ≤ n ∧ n < 2 ^ 62) ∧ Ψ (rgD lo (n - lo).toNat) M')
    (hs : starEach [a, b] X.env = [(false, eval a X.env), (false, eval b X.env)] := by rfl) (hs2 : starEach [b] X.env = [(false, eval b X.env)] := by rfl) : IW T X tg (.Call (.Name "range" p) [a, b] [] pos) ρ M Ψ := fun F H σ R f s m k =>
  ⟨_, pi_range2 hg hm pa_w hs hs2, h F H σ _ f s m fun vs ds M1 F1 H1 ⟨lo, n, e1, b1, p1⟩ q1 r1 => by
    subst e1
    obtain ⟨v, w, e2, r2, r3⟩ := vs2 r1
    rw [rp_int.mp r2, rp_int.mp r3] at e2
    exact ⟨lo, n, e2, b1, k _ _ M1 F1 H1 p1 q1 wk_range⟩⟩
def sgD (z : Str) : List Dt := z.cps.toList.map fun c => .str ⟨#[c]⟩
theorem iw_str {z : Str} (h : ED T X e ρ (.str z)) (k : Ψ (sgD z) M) : IW T X tg e ρ M Ψ := fun F H σ R f s m kk => ⟨_, pi_str pe_w, h F H σ _ f s fun v F1 H1 f1 s1 r1 => by
  refine ⟨z, rp_str.mp r1, kk _ _ M F1 H1 k (Reach.pure m f1 s1) ⟨⟨fun i H v H' => H' = H ∧ ∃ c, z.cps[i]? = some c ∧ v = .str ⟨#[c]⟩, ?_, fun i d Hc x Hc' hd hy F' f' e' => ?_⟩⟩⟩
  · have el : (sgD z).length = z.cps.size := by unfold sgD; rw [List.length_map, Array.length_toList]
    rw [el]
    exact walk_str.mono (fun _ _ => trivial) fun _ _ _ _ _ _ y => y
  · obtain ⟨rfl, c, hc, rfl⟩ := hy
    have : d = .str ⟨#[c]⟩ := by
      unfold sgD at hd
      rw [List.getElem?_map, Array.getElem?_toList, hc] at hd
      exact (Option.some.inj hd).symm
    subst this
    exact ⟨F', f', Stp.refl _ _ _, rp_str.mpr rfl⟩⟩
theorem walk_revT {K : PySem.W.Frag} {a : Addr} {xs : List V} : Walk (ItvT K a xs.length) xs.length (fun H => SqT K H a xs) (fun i H x H' => H' = H ∧ xs[xs.length - 1 - i]? = some x) :=
  ⟨fun i _ hi q => ⟨hi, xs, xs[xs.length - 1 - i]'(by omega), q, by simp [show xs.length - 1 - i < xs.length by omega]⟩, fun _ _ => Nat.le_refl _, fun _ _ _ _ _ q y => ⟨y.1, y.2 xs q⟩⟩
theorem iw_rev {ds : List Dt} (hg : Gl X "reversed") (hm : X.mg "reversed" = none) (h : ED T X e ρ (.tup ds)) (k : Ψ ds.reverse M) (hs : starEach [e] X.env = (false, eval e X.env) :: starEach [] X.env := by exact st_any rfl) : IW T X tg (.Call (.Name "reversed" p) [e] [] pos) ρ M Ψ := fun F H σ R f s m kk =>
  ⟨_, pi_revA hg hm pe_w hs, h F H σ _ f s fun v F1 H1 f1 s1 r1 => by
    obtain ⟨a, vs, e2, h1, h2⟩ := rp_tup.mp r1
    refine ⟨a, vs, e2, .inr ⟨ex_t f1.sub h1, kk _ _ M F1 H1 k (Reach.pure m f1 s1) ⟨⟨fun i H x H' => H' = H ∧ vs[vs.length - 1 - i]? = some x, ?_, fun i d Hc x Hc' hd hy F' f' e' => ?_⟩⟩⟩⟩
    · rw [List.length_reverse, ← h2.length]
      exact (walk_revT (K := X.K) (a := a) (xs := vs)).mono (fun H e => ex_t e h1) fun _ _ _ _ _ _ y => y
    · obtain ⟨rfl, hx⟩ := hy
      obtain ⟨v', h3, h4⟩ := h2.reverse.get hd
      have hi : i < vs.length := by
        have := (List.getElem?_eq_some_iff.mp h3).1
        rwa [List.length_reverse] at this
      rw [List.getElem?_reverse hi, hx] at h3
      cases h3
      exact ⟨F', f', Stp.refl _ _ _, h4.mono e'⟩⟩
theorem pair_new {K : PySem.W.Frag} {F' Hc : Hp} {T0 : Addr} {x y : V} {dx dy : Dt} (f : Fine T F' Hc) (hn : Hc T0 = none) (rx : Rp K F' x dx) (ry : Rp K F' y dy) :
    ∃ F'', Fine T F'' (upd Hc T0 (.tup [x, y])) ∧ Stp [] F' Hc F'' (upd Hc T0 (.tup [x, y])) ∧ Rp K F'' (.ref T0) (.tup [dx, dy]) := by
  obtain ⟨f', s', r'⟩ := cat_new hn f (.cons rx (.cons ry .nil))
  exact ⟨_, f', s', r'⟩
theorem iw_zip {es : List Expr} {kk : Nat} {tpos : Pos} {xs ys : List Dt} (hg : Gl X "zip") (hm : X.mg "zip" = none) (h : AD T X [a, b] ρ [.lst xs, .lst ys]) (k : Ψ ((xs.zip ys).map fun p => .tup [p.1, p.2]) M) (hp : ∃ (ta : TA), PA X [a, b] ta := by exact ⟨_, pa_w⟩)
    (hpi : PI X (.Tuple es kk tpos) (.Call (.Name "zip" p) [a, b] [] pos) (iZip X.K (wA X [a, b])) := by exact pi_zip (by rfl) (by assumption) pa_w) : IW T X (.Tuple es kk tpos) (.Call (.Name "zip" p) [a, b] [] pos) ρ M Ψ := fun F H σ R f s m q =>
  ⟨_, hpi, h F H σ _ f s fun vs F1 H1 f1 s1 r1 => by
    obtain ⟨v, w, e2, r2, r3⟩ := vs2 r1
    obtain ⟨a', us, e3, h1, h2⟩ := rp_lst.mp r2
    obtain ⟨b', ws, e4, h3, h4⟩ := rp_lst.mp r3
    subst e3 e4
    refine ⟨a', b', us, ws, e2, SqL.of (f1.sub _ _ h1), SqL.of (f1.sub _ _ h3), q _ _ M F1 H1 k (Reach.pure m f1 s1) ⟨⟨YPair (fun i => us[i]?) (fun i => ws[i]?), ?_, fun i d Hc x Hc' hd hy F' f' e' => ?_⟩⟩⟩
    · rw [List.length_map, List.length_zip, ← h2.length, ← h4.length]
      exact (walk_zip (K := X.K) (a := a') (b := b') (xs := us) (ys := ws) rfl).mono (fun H e => ⟨SqL.of (e _ _ h1), SqL.of (e _ _ h3)⟩) fun _ _ _ _ _ _ y => y
    · obtain ⟨T0, x1, y1, rfl, hn, rfl, g1, g2⟩ := hy
      obtain ⟨dx, k1, k2⟩ := h2.getV g1
      obtain ⟨dy, k3, k4⟩ := h4.getV g2
      have ed : d = .tup [dx, dy] := by
        rw [List.getElem?_map, List.getElem?_zip_eq_some.mpr (show xs[i]? = some (dx, dy).1 ∧ ys[i]? = some (dx, dy).2 from ⟨k1, k3⟩)] at hd
        exact (Option.some.inj hd).symm
      subst ed
      exact pair_new f' hn (k2.mono e') (k4.mono e')⟩
end

/-! ### for -/
section
variable {T : Tb} {X : Cx} {tg iter : Expr} {ρ : Rho} {M : Mem} {E : DE} {body : List Stmt} {pos : Pos} {st : Rho → Dt → Option Rho} {Ψ : List Dt → Mem → Prop}
theorem w1_for (hp : PassesOwn (model X.prog X.w) X.A X.env X.xe) (hc : X.calm = true) (ht : TgOk X tg st) (hi : IW T X tg iter ρ M Ψ)
    (hb : ∀ ds M1, Ψ ds M1 → ∃ Pv : Nat → Rho → Mem → Prop, Pv 0 ρ M1 ∧ (∀ i d ρ' M', ds[i]? = some d → Pv i ρ' M' → ∃ ρ'', st ρ' d = some ρ'' ∧ WS T X body ρ'' M' { E with nx := Pv (i + 1), ct := Pv (i + 1), bk := E.nx }) ∧ ∀ ρ' M', Pv ds.length ρ' M' → E.nx ρ' M')
    (hs : ∀ x, foldedSetIterable iter X.env x = pure x := by intro _; rfl) : W1 T X (.For tg iter body [] pos) ρ M E := fun F H σ D f s m k => by
  obtain ⟨g, hg, gk⟩ := ht
  refine PS_w (ps_for hp hc pi_w hg pss_w hs) (hi F H σ _ f s m fun J ds M1 F1 H1 p1 q1 w1 => ?_)
  obtain ⟨Y, w, y⟩ := w1.ex
  obtain ⟨Pv, h0, ht, hd⟩ := hb ds M1 p1
  refine for_it (D := D) w (fun i σ' H' => ∃ ρ' M' F', Pv i ρ' M' ∧ Reach T X.K M1 F1 H1 M' F' H' ∧ Slots X.K F' σ' ρ') ⟨ρ, M1, F1, h0, Reach.refl q1.fine q1.mem, s.at_reach q1⟩ (fun i σ' H' _ ⟨ρ', M', F', _, q, _⟩ => q.stp.ff.trans q.fine.sub) ?_ ?_
  · rintro i x σ' Hc Hc' hi' ⟨ρ', M', F', pv, q, s'⟩ hy
    have hd' : ds[i]? = some ds[i] := by simp [hi']
    obtain ⟨F'', f'', s'', r''⟩ := y i _ Hc x Hc' hd' hy F' q.fine q.stp.ff
    have q' := q.trans (Reach.pure q.mem f'' s'')
    obtain ⟨ρ'', e, b⟩ := ht i _ ρ' M' hd' pv
    refine gk T F'' Hc' σ' ρ' ρ'' x ds[i] _ f'' (s'.mono s''.ff) r'' e fun σ2 s2 => ?_
    have kk := k.after (q1.trans q')
    refine b F'' Hc' σ2 _ f'' s2 q'.mem ⟨fun σ3 ρ3 M3 F3 H3 p3 q3 s3 => ⟨ρ3, M3, F3, p3, q'.trans q3, s3⟩, fun v d M3 F3 H3 p3 q3 r3 => kk.rt v d M3 F3 H3 p3 q3 r3, fun σ3 ρ3 M3 F3 H3 p3 q3 s3 => kk.nx σ3 ρ3 M3 F3 H3 p3 q3 s3, fun σ3 ρ3 M3 F3 H3 p3 q3 s3 => ⟨ρ3, M3, F3, p3, q'.trans q3, s3⟩⟩
  · rintro σ' H' ⟨ρ', M', F', pv, q, s'⟩
    exact k.nx σ' ρ' M' F' H' (hd ρ' M' pv) (q1.trans q) s'

/-- while, by a word and a number that falls -/
theorem w1_while {c : Expr} (hp : PassesOwn (model X.prog X.w) X.A X.env X.xe) (Pv : Nat → Rho → Mem → Prop) (n0 : Nat) (h0 : Pv n0 ρ M)
    (ht : ∀ n ρ' M', Pv n ρ' M' → WT T X c ρ' M' fun t M2 => if t = true then WS T X body ρ' M2 { E with nx := fun ρ3 M3 => ∃ n', n' < n ∧ Pv n' ρ3 M3, ct := fun ρ3 M3 => ∃ n', n' < n ∧ Pv n' ρ3 M3, bk := E.nx } else E.nx ρ' M2) : W1 T X (.While c body [] pos) ρ M E := fun F H σ D f s m k => by
  refine PS_w (ps_while hp pt_w pss_w) ⟨fun n σ' H' => ∃ ρ' M' F', Pv n ρ' M' ∧ Reach T X.K M F H M' F' H' ∧ Slots X.K F' σ' ρ', ⟨n0, ρ, M, F, h0, Reach.refl f m, s⟩, ?_⟩
  rintro n σ' H' ⟨ρ', M', F', pv, q, s'⟩
  refine ht n ρ' M' pv F' H' σ' _ q.fine s' q.mem fun t M2 F2 H2 p2 q2 => ?_
  have qq := q.trans q2
  cases t with
  | true =>
    have p2' : WS T X body ρ' M2 { E with nx := fun ρ3 M3 => ∃ n', n' < n ∧ Pv n' ρ3 M3, ct := fun ρ3 M3 => ∃ n', n' < n ∧ Pv n' ρ3 M3, bk := E.nx } := by simpa using p2
    refine ⟨fun σ3 H3 => ∃ n', n' < n ∧ ∃ ρ3 M3 F3, Pv n' ρ3 M3 ∧ Reach T X.K M F H M3 F3 H3 ∧ Slots X.K F3 σ3 ρ3, fun σ3 H3 ⟨n', l, w⟩ => ⟨n', l, w⟩, ?_⟩
    have kk := k.after qq
    exact p2' F2 H2 σ' _ qq.fine (s'.at_reach q2) qq.mem ⟨fun σ3 ρ3 M3 F3 H3 ⟨n', l, p3⟩ q3 s3 => ⟨n', l, ρ3, M3, F3, p3, qq.trans q3, s3⟩, fun v d M3 F3 H3 p3 q3 r3 => kk.rt v d M3 F3 H3 p3 q3 r3, fun σ3 ρ3 M3 F3 H3 p3 q3 s3 => kk.nx σ3 ρ3 M3 F3 H3 p3 q3 s3, fun σ3 ρ3 M3 F3 H3 ⟨n', l, p3⟩ q3 s3 => ⟨n', l, ρ3, M3, F3, p3, qq.trans q3, s3⟩⟩
  | false =>
    have p2' : E.nx ρ' M2 := by simpa using p2
    exact k.nx σ' ρ' M2 F2 H2 p2' qq (s'.at_reach q2)
end

/-! ### comprehensions -/
/-- the contexts of a comprehension's block -/
structure Blk (X : Cx) (scope : Scope) (B : Cx) : Prop where
  is_ : ∃ (s : Shared) (H : Hp) (C : Addr) (cl : List (Str × Addr)) (fp : List Addr), B = X.blk s H scope (compEnvC scope cl C X.env) fp
def wTs (X : Cx) (ifs : List Expr) (σ : L2.St) (H : Hp) (Q : Bool → Hp → Prop) : Prop := ∃ t, PTs X ifs t ∧ t σ H Q
theorem pts_w {X : Cx} {ifs : List Expr} : PTs X ifs (wTs X ifs) := ⟨fun pins s σ H Q I h => by
  obtain ⟨t, h1, h2⟩ := h
  exact h1.run pins s σ H Q I h2⟩
def WTs (T : Tb) (X : Cx) (ifs : List Expr) (ρ : Rho) (M : Mem) (Ψ : Bool → Mem → Prop) : Prop := ∀ (F H : Hp) (σ : L2.St) (Q : Bool → Hp → Prop), Fine T F H → Slots X.K F σ ρ → MemOk X.K F H M →
  (∀ b M' F' H', Ψ b M' → Reach T X.K M F H M' F' H' → Q b H') → wTs X ifs σ H Q
theorem wts_nil {T : Tb} {X : Cx} {ρ : Rho} {M : Mem} {Ψ : Bool → Mem → Prop} (h : Ψ true M) : WTs T X [] ρ M Ψ := fun F H σ Q f s m k => ⟨_, pts_nil, k true M F H h (Reach.refl f m)⟩
theorem wts_one {T : Tb} {X : Cx} {c : Expr} {ρ : Rho} {M : Mem} {Ψ : Bool → Mem → Prop} (h : WT T X c ρ M Ψ) : WTs T X [c] ρ M Ψ := fun F H σ Q f s m k => ⟨_, pts_one pt_w, h F H σ Q f s m k⟩
section
variable {T : Tb} {X : Cx} {iter elt : Expr} {ifs : List Expr} {ρ : Rho} {M : Mem} {scope : Scope} {pos : Pos} {Ψ : List Dt → Mem → Prop} {Φ : Dt → Mem → Prop} {x : Str} {j : Nat} {px : Pos}
/-- what a comprehension's turn is to do -/
def LcTurn (T : Tb) (X : Cx) (scope : Scope) (elt : Expr) (ifs : List Expr) (ρ : Rho) (j : Nat) (Φ : Dt → Mem → Prop) (ds : List Dt) (M1 : Mem) : Prop :=
  ∃ Pv : Nat → List Dt → Mem → Prop, Pv 0 [] M1 ∧ (∀ i d acc M', ds[i]? = some d → Pv i acc M' → acc.length < sizeLine ∧ ∀ B, Blk X scope B → WTs T B ifs ((ρ.set j none).set j (some d)) M' fun t M2 => if t = true then ∀ B, Blk X scope B → WE T B elt ((ρ.set j none).set j (some d)) M2 fun y M3 => Pv (i + 1) (acc ++ [y]) M3 else Pv (i + 1) acc M2) ∧
    ∀ acc M', Pv ds.length acc M' → Φ (.lst acc) M'
theorem tabs_mut {H : Hp} {D : Addr} {vs : List V} {o : HO} (t : LamX.Tabs T.tabs H) (h : H D = some (.lst vs)) : LamX.Tabs T.tabs (upd H D o) := fun p hp => by
  obtain ⟨ps, h1, h2, h3⟩ := t p hp
  refine ⟨ps, by rw [upd_ne (ne_of h1 h fun z => by cases z)]; exact h1, h2, fun pos cv hc => ?_⟩
  obtain ⟨c, e1, e2⟩ := h3 pos cv hc
  exact ⟨c, e1, by rw [upd_ne (ne_of e2 h fun z => by unfold LamX.CodeO at z; cases z)]; exact e2⟩
theorem Reach.keepD {K : PySem.W.Frag} {M M' : Mem} {F H F' H' : Hp} {D : Addr} {vs : List V} (r : Reach T K M F H M' F' H') (hM : D ∉ dom M) (h : H D = some (.lst vs)) (hF : F D = none) : H' D = some (.lst vs) ∧ F' D = none ∧ D ∉ dom M' := by
  refine ⟨r.stp.keep D _ hM h fun _ z => (by cases z), r.stp.fresh D _ hM h (.inl ⟨_, rfl⟩) hF, fun z => ?_⟩
  rcases r.dm D z with q | q
  · exact hM q
  · obtain ⟨ps, e⟩ := q _ h
    cases e
theorem Reach.mutD {K : PySem.W.Frag} {M M' : Mem} {F H F' H' : Hp} {D : Addr} {vs ws : List V} (r : Reach T K M F H M' F' H') (hD : H D = none) (hF : F' D = none) (hM : D ∉ dom M') (h : H' D = some (.lst vs)) : Reach T K M F H M' F' (upd H' D (.lst ws)) := by
  have ne : ∀ a, H a ≠ none → a ≠ D := fun a ha e => ha (e ▸ hD)
  refine ⟨⟨r.stp.ff, fun a o ha e n => ?_, r.stp.fresh⟩, ⟨fun a o e => ?_, tabs_mut r.fine.tab h, r.fine.nt, r.fine.bs⟩, ⟨r.mem.nd, r.mem.out, fun p hp => ?_⟩, r.dm⟩
  · rw [upd_ne (ne a (by rw [e]; simp))]; exact r.stp.keep a o ha e n
  · rw [upd_ne (ne_of_none e hF)]; exact r.fine.sub a o e
  · have np : p.1 ≠ D := fun e => hM (e ▸ List.mem_map.mpr ⟨p, hp, rfl⟩)
    exact (r.mem.at_ p hp : ObjIs _ _ _ _ _).keep (Ex.refl _) fun u e => by rw [upd_ne np]; exact e
theorem Reach.frzD {K : PySem.W.Frag} {M M' : Mem} {F H F' H' : Hp} {D : Addr} {vs : List V} (r : Reach T K M F H M' F' H') (hD : H D = none) (hF : F' D = none) (hM : D ∉ dom M') (h : H' D = some (.lst vs)) : Reach T K M F H M' (upd F' D (.lst vs)) H' := by
  have ne : ∀ a, H a ≠ none → a ≠ D := fun a ha e => ha (e ▸ hD)
  refine ⟨⟨r.stp.ff.trans (Ex.new hF), r.stp.keep, fun a o ha e n f => ?_⟩, ⟨fun a o e => ?_, r.fine.tab, fun a ps e => ?_, r.fine.bs.trans (Ex.new hF)⟩, ⟨r.mem.nd, fun p hp => ?_, fun p hp => ?_⟩, r.dm⟩
  · rw [upd_ne (ne a (by rw [e]; simp))]; exact r.stp.fresh a o ha e n f
  · by_cases q : a = D
    · subst q; rw [upd_same] at e; rw [← Option.some.inj e]; exact h
    · rw [upd_ne q] at e; exact r.fine.sub a o e
  · by_cases q : a = D
    · subst q; rw [upd_same] at e; cases e
    · rw [upd_ne q] at e; exact r.fine.nt a ps e
  · have np : p.1 ≠ D := fun e => hM (e ▸ List.mem_map.mpr ⟨p, hp, rfl⟩)
    rw [upd_ne np]; exact r.mem.out p hp
  · exact (r.mem.at_ p hp : ObjIs _ _ _ _ _).keep (Ex.new hF) fun u e => e
theorem lc_read {F H : Hp} {σ : L2.St} {Q : VK} (f : Fine T F H) (s : Slots X.K F σ ρ) (m : MemOk X.K F H M) (hi : IW T X (.Name x px) iter ρ M Ψ) (hb : ∀ ds M1, Ψ ds M1 → LcTurn T X scope elt ifs ρ j Φ ds M1)
    (k : ∀ v d M' F' H', Φ d M' → Reach T X.K M F H M' F' H' → Rp X.K F' v d → Q v H') :
    tLc (wI X (.Name x px) iter) (gName j) (fun σ H Q => ∀ B, Blk X scope B → wTs B ifs σ H Q) (fun σ H Q => ∀ B, Blk X scope B → wE B elt σ H Q) [j] σ H Q := by
  refine hi F H σ _ f s m fun J ds M1 F1 H1 p1 q1 w1 => fun Dl hD => ?_
  obtain ⟨Y, w, y⟩ := w1.ex
  obtain ⟨Pv, h0, ht, hd⟩ := hb ds M1 p1
  have nF1 : F1 Dl = none := fresh_back q1.fine.sub hD
  refine lc_it (g := gName j) (tt := fun σ H Q => ∀ B, Blk X scope B → wTs B ifs σ H Q) (te := fun σ H Q => ∀ B, Blk X scope B → wE B elt σ H Q) (vs := [j]) (σ := σ) (H1 := H1) (D := Dl) (Qd := fun H' => Q (.ref Dl) H') w (fun i H' => ∃ acc vs M' F', Pv i acc M' ∧ Reach T X.K M1 F1 H1 M' F' H' ∧ H' Dl = some (.lst vs) ∧ Rps X.K F' vs acc ∧ F' Dl = none ∧ Dl ∉ dom M') ?_ (fun i H' _ ⟨acc, vs, M', F', _, q, _⟩ => q.stp.ff.trans q.fine.sub) ?_ ?_
  · have r0 : Reach T X.K M1 F1 H1 M1 F1 (upd H1 Dl (.lst [])) := Reach.pure q1.mem (q1.fine.newM hD) (stp_newM hD)
    refine ⟨[], [], M1, F1, h0, r0, upd_same, .nil, nF1, fun z => ?_⟩
    obtain ⟨p, hp, e⟩ := List.mem_map.mp z
    obtain ⟨u, hu, _⟩ := (q1.mem.at_ p hp : ObjIs _ _ _ _ _).stands
    rw [e, hD] at hu
    cases hu
  · rintro i v Hc Hc' hi' ⟨acc, vs, M', F', pv, q, hl, rv, nF, nM⟩ hy
    have hd' : ds[i]? = some ds[i] := by simp [hi']
    obtain ⟨F'', f'', s'', r''⟩ := y i _ Hc v Hc' hd' hy F' q.fine q.stp.ff
    have qs := Reach.pure (T := T) q.mem f'' s''
    have q' := q.trans qs
    obtain ⟨hl', nF', nM'⟩ := qs.keepD nM hl nF
    have rv' := rv.mono s''.ff
    have s1 : Slots X.K F'' ((wipe σ [j]).set j (some v)) ((ρ.set j none).set j (some ds[i])) := (((s.at_reach q1).mono (q.stp.ff.trans s''.ff)).setN).set r''
    show (wipe ((wipe σ [j]).set j (some v)) [j] = wipe σ [j]) ∧ _
    refine ⟨by simp [wipe, List.set_set], ?_⟩
    intro B hB
    obtain ⟨hz, t⟩ := ht i ds[i] acc M' hd' pv
    have t := t B hB
    obtain ⟨sB, HB, CB, clB, fpB, rfl⟩ := hB.is_
    refine t F'' Hc' _ _ f'' s1 q'.mem fun b M2 F2 H2 p2 q2 => ?_
    obtain ⟨hl2, nF2, nM2⟩ := q2.keepD nM' hl' nF'
    have rv2 := rv'.mono q2.stp.ff
    cases b with
    | false =>
      refine iteF ⟨acc, vs, M2, F2, by simpa using p2, q'.trans q2, hl2, rv2, nF2, nM2⟩
    | true =>
      have p2' : ∀ B, Blk X scope B → WE T B elt ((ρ.set j none).set j (some ds[i])) M2 fun y M3 => Pv (i + 1) (acc ++ [y]) M3 := by simpa using p2
      refine iteT fun B2 hB2 => ?_
      have t2 := p2' B2 hB2
      obtain ⟨sB2, HB2, CB2, clB2, fpB2, rfl⟩ := hB2.is_
      refine t2 F2 H2 _ _ q2.fine (s1.at_reach q2) q2.mem fun v2 d2 M3 F3 H3 p3 q3 r3 => ?_
      obtain ⟨hl3, nF3, nM3⟩ := q3.keepD nM2 hl2 nF2
      have rr := (q'.trans q2).trans q3
      exact ⟨vs, hl3, by rw [rv.length]; exact hz, acc ++ [d2], vs ++ [v2], M3, F3, p3, rr.mutD hD nF3 nM3 hl3, upd_same, (rv2.mono q3.stp.ff).append (.cons r3 .nil), nF3, nM3⟩
  · rintro H' ⟨acc, vs, M', F', pv, q, hl, rv, nF, nM⟩
    have rr := q.frzD hD nF nM hl
    exact k _ (.lst acc) M' _ H' (hd acc M' pv) (q1.trans rr) (rp_lst.mpr ⟨Dl, vs, rfl, upd_same, rv.mono (Ex.new nF)⟩)
theorem we_lc (hc : X.calm = true) (hN : X.N.Nodup) (hi : IW T X (.Name x px) iter ρ M Ψ) (ok : BlkOk X.N X.env.scope scope [(x, j)]) (hg : ∀ B, Blk X scope B → PG B (.Name x px) (gName j)) (hb : ∀ ds M1, Ψ ds M1 → LcTurn T X scope elt ifs ρ j Φ ds M1)
    (hs : ∀ x, foldedSetIterable iter X.env x = pure x := by intro _; rfl) : WE T X (.ListComp elt [⟨.Name x px, iter, ifs, 0⟩] scope pos) ρ M Φ := fun F H σ Q f s m k =>
  PE_w (pe_lc (own := [(x, j)]) hc hN pi_w ok (fun s H C cl fp => hg _ ⟨s, H, C, cl, fp, rfl⟩) (fun s H C cl fp => ⟨fun pins s' σ H Q I h => (pts_w).run pins s' σ H Q I (h _ ⟨_, _, _, _, _, rfl⟩)⟩) (fun s H C cl fp => ⟨fun pins s' σ H Q I h => h _ ⟨_, _, _, _, _, rfl⟩ pins s' I⟩) hs)
    (lc_read f s m hi hb k)
/-- name = [..], the name a plain local, on one line -/
theorem w1_setLc {E : DE} {ix : Nat} {y : Str} {py spos : Pos} (hc : X.calm = true) (hN : X.N.Nodup) (hi : IW T X (.Name x px) iter ρ M Ψ) (ok : BlkOk X.N X.env.scope scope [(x, j)]) (hg : ∀ B, Blk X scope B → PG B (.Name x px) (gName j))
    (hb : ∀ ds M1, Ψ ds M1 → LcTurn T X scope elt ifs ρ j (fun d M' => E.nx (ρ.set ix (some d)) M') ds M1) (hy : X.N[ix]? = some y) (hyl : X.env.scope.names.lookup y = some .local)
    (hsw : swapsWith (.ListComp elt [⟨.Name x px, iter, ifs, 0⟩] scope pos) (some (.Name y py)) spos.line X.env = pure true)
    (hs : ∀ x, foldedSetIterable iter X.env x = pure x := by intro _; rfl) : W1 T X (.Assign [.Name y py] (.ListComp elt [⟨.Name x px, iter, ifs, 0⟩] scope pos) spos) ρ M E := fun F H σ D f s m k =>
  PS_w (ps_setLc (own := [(x, j)]) hc hN hy hyl hsw pi_w ok (fun s H C cl fp => hg _ ⟨s, H, C, cl, fp, rfl⟩) (fun s H C cl fp => ⟨fun pins s' σ H Q I h => (pts_w).run pins s' σ H Q I (h _ ⟨_, _, _, _, _, rfl⟩)⟩) (fun s H C cl fp => ⟨fun pins s' σ H Q I h => h _ ⟨_, _, _, _, _, rfl⟩ pins s' I⟩) hs)
    (lc_read f s m hi hb fun v d M' F' H' p q r => k.nx _ _ M' F' H' p q ((s.at_reach q).set r))
/-- the pure case: the i-th item gives g i, where it is taken -/
theorem lcturn_p {ds : List Dt} {M1 : Mem} {b : Nat → Bool} {g : Nat → Dt} (hl : ds.length ≤ 100000) (ht : ∀ i d, ds[i]? = some d → ∀ B, Blk X scope B → WTs T B ifs ((ρ.set j none).set j (some d)) M1 (fun t M2 => t = b i ∧ M2 = M1))
    (he : ∀ i d, ds[i]? = some d → b i = true → ∀ B, Blk X scope B → ED T B elt ((ρ.set j none).set j (some d)) (g i)) (hk : Φ (.lst (((List.range ds.length).filter b).map g)) M1) : LcTurn T X scope elt ifs ρ j Φ ds M1 := by
  refine ⟨fun i acc M' => i ≤ ds.length ∧ acc = ((List.range i).filter b).map g ∧ M' = M1, ⟨Nat.zero_le _, rfl, rfl⟩, ?_, ?_⟩
  · rintro i d acc M' hd ⟨hi, rfl, rfl⟩
    have hi' : i < ds.length := (List.getElem?_eq_some_iff.mp hd).1
    refine ⟨?_, fun B hB => ?_⟩
    · have h1 := List.length_filter_le b (List.range i)
      rw [List.length_range] at h1
      rw [List.length_map]
      exact Nat.lt_of_le_of_lt h1 (Nat.lt_of_lt_of_le hi' (Nat.le_trans hl (by decide)))
    · have t := ht i d hd B hB
      intro F H σ Q f s m k
      refine t F H σ Q f s m fun t' M2 F2 H2 ⟨e1, e2⟩ q2 => k t' M2 F2 H2 ?_ q2
      subst e1 e2
      cases hb : b i with
      | true =>
        rw [if_pos rfl]
        intro B2 hB2
        refine we_p (he i d hd hb B2 hB2) ⟨hi', ?_, rfl⟩
        rw [List.range_succ, List.filter_append, List.map_append]
        simp [hb]
      | false =>
        rw [if_neg (by decide)]
        refine ⟨hi', ?_, rfl⟩
        rw [List.range_succ, List.filter_append, List.map_append]
        simp [hb]
  · rintro acc M' ⟨_, rfl, rfl⟩
    exact hk
/-- .. all taken -/
theorem lcturn_all {ds : List Dt} {M1 : Mem} {gs : List Dt} (hl : ds.length ≤ 100000) (hg : gs.length = ds.length) (he : ∀ (i : Nat) (d g : Dt), ds[i]? = some d → gs[i]? = some g → ∀ B, Blk X scope B → ED T B elt ((ρ.set j none).set j (some d)) g) (hk : Φ (.lst gs) M1) : LcTurn T X scope elt [] ρ j Φ ds M1 := by
  refine lcturn_p (b := fun _ => true) (g := fun i => gs.getD i .non) hl (fun i d hd B hB => wts_nil ⟨rfl, rfl⟩) (fun i d hd _ B hB => ?_) ?_
  · have hi : i < gs.length := by rw [hg]; exact (List.getElem?_eq_some_iff.mp hd).1
    refine he i d _ hd ?_ B hB
    simp [List.getD, hi]
  · have e : ((List.range ds.length).filter fun _ => true).map (fun i => gs.getD i .non) = gs := by
      rw [List.filter_eq_self.mpr (by simp), ← hg]
      refine List.ext_getElem? fun i => ?_
      rw [List.getElem?_map]
      by_cases hi : i < gs.length
      · rw [List.getElem?_range hi]; simp [List.getD, hi]
      · rw [List.getElem?_eq_none (by simpa using hi), List.getElem?_eq_none (by simpa using hi)]; rfl
    rw [e]
    exact hk
end
end BL
set_option maxHeartbeats 4000000
/-! Foundation, part 6: lists that change, dicts, the pen's calls, defs by their bodies. -/
namespace BL
open PySem PySem.Spec PyProof.Rows L2 Evl

/-! ### the memory at one place -/
section
variable {T : Tb} {K : PySem.W.Frag} {M : Mem} {F H : Hp}
theorem mem_ne (m : MemOk K F H M) {n j : Nat} {q q' : Addr} {o o' : MO} (h : M[n]? = some (q, o)) (h' : M[j]? = some (q', o')) (hn : n ≠ j) : q ≠ q' := fun e => by
  have a1 : (dom M)[n]? = some q := by rw [List.getElem?_map, h]; rfl
  have a2 : (dom M)[j]? = some q := by rw [List.getElem?_map, h', e]; rfl
  exact hn (nd_ix m.nd a1 a2)
theorem dom_set {n : Nat} {q : Addr} {o o' : MO} (h : M[n]? = some (q, o)) : dom (M.set n (q, o')) = dom M := by
  have hn : n < M.length := (List.getElem?_eq_some_iff.mp h).1
  unfold dom
  rw [List.map_set]
  refine List.ext_getElem? fun i => ?_
  by_cases hi : n = i
  · subst hi
    rw [List.getElem?_set_self (by simpa using hn), List.getElem?_map, h]
    rfl
  · rw [List.getElem?_set_ne hi]
/-- the object at the n-th place is changed -/
theorem reach_set {n : Nat} {q : Addr} {o o' : MO} {u u' : HO} (f : Fine T F H) (m : MemOk K F H M) (h : M[n]? = some (q, o)) (hu : H q = some u) (hv : (∃ vs, u = .lst vs) ∨ ∃ kvs, u = .dK kvs) (ho : ObjIs K F (upd H q u') q o') : Reach T K M F H (M.set n (q, o')) F (upd H q u') := by
  have hq : (q, o) ∈ M := List.mem_of_getElem? h
  have fq : F q = none := m.out _ hq
  have dq : q ∈ dom M := List.mem_map.mpr ⟨_, hq, rfl⟩
  have nt : ∀ b w, H b = some w → (∀ z, w ≠ .lst z) → (∀ z, w ≠ .dK z) → b ≠ q := fun b w e n1 n2 z => by
    rw [z, hu] at e
    cases e
    rcases hv with ⟨vs, e⟩ | ⟨vs, e⟩
    · exact n1 vs e
    · exact n2 vs e
  refine ⟨⟨Ex.refl F, fun a w ha e _ => ?_, fun a _ _ _ _ e => e⟩, ⟨fun a w e => ?_, fun p hp => ?_, f.nt, f.bs⟩, ⟨?_, fun p hp => ?_, fun p hp => ?_⟩, fun a ha => .inl (by rw [dom_set h] at ha; exact ha)⟩
  · rw [upd_ne (show a ≠ q from fun z => ha (by rw [z]; exact dq))]; exact e
  · rw [upd_ne (ne_of_none e fq)]; exact f.sub a w e
  · obtain ⟨ps, h1, h2, h3⟩ := f.tab p hp
    refine ⟨ps, by rw [upd_ne (nt _ _ h1 (fun z e => by cases e) fun z e => by cases e)]; exact h1, h2, fun pos cv hc => ?_⟩
    obtain ⟨c, e1, e2⟩ := h3 pos cv hc
    exact ⟨c, e1, by rw [upd_ne (nt _ _ e2 (fun z e => by unfold LamX.CodeO at e; cases e) fun z e => by unfold LamX.CodeO at e; cases e)]; exact e2⟩
  · show (dom (M.set n (q, o'))).Nodup
    rw [dom_set h]
    exact m.nd
  · rcases List.mem_or_eq_of_mem_set hp with hp | rfl
    · exact m.out p hp
    · exact fq
  · obtain ⟨j, hj⟩ := List.mem_iff_getElem?.mp hp
    by_cases hnj : n = j
    · subst hnj
      rw [List.getElem?_set_self (List.getElem?_eq_some_iff.mp h).1] at hj
      cases hj
      exact ho
    · rw [List.getElem?_set_ne hnj] at hj
      have np : p.1 ≠ q := fun e => mem_ne m hj h (Ne.symm hnj) e
      exact (m.at_ p (List.mem_of_getElem? hj) : ObjIs _ _ _ _ _).keep (Ex.refl F) fun w e => by rw [upd_ne np]; exact e
/-- a new object that may change -/
theorem reach_new {p : Addr} {o : MO} {u : HO} (f : Fine T F H) (m : MemOk K F H M) (hp : H p = none) (ho : ObjIs K F (upd H p u) p o) : Reach T K M F H (M ++ [(p, o)]) F (upd H p u) := by
  have fp : F p = none := fresh_back f.sub hp
  have np : ∀ r ∈ M, r.1 ≠ p := fun r hr e => by
    obtain ⟨w, hw, _⟩ := (m.at_ r hr : ObjIs _ _ _ _ _).stands
    rw [e, hp] at hw
    cases hw
  refine ⟨stp_newM hp, f.newM hp, ⟨?_, fun r hr => ?_, fun r hr => ?_⟩, fun a ha => ?_⟩
  · show (dom (M ++ [(p, o)])).Nodup
    unfold dom
    rw [List.map_append, List.nodup_append]
    refine ⟨m.nd, by simp, fun a ha b hb e => ?_⟩
    obtain ⟨r, hr, e1⟩ := List.mem_map.mp ha
    have : b = p := by simpa using hb
    exact np r hr (by rw [e1, e, this])
  · rcases List.mem_append.mp hr with hr | hr
    · exact m.out r hr
    · have : r = (p, o) := by simpa using hr
      subst this
      exact fp
  · rcases List.mem_append.mp hr with hr | hr
    · exact (m.at_ r hr : ObjIs _ _ _ _ _).keep (Ex.refl F) fun w e => by rw [upd_ne (np r hr)]; exact e
    · have : r = (p, o) := by simpa using hr
      subst this
      exact ho
  · have ha' : a ∈ dom M ∨ a = p := by simpa [dom] using ha
    rcases ha' with h | h
    · exact .inl h
    · exact .inr (Nm.of (h ▸ hp))
end

/-! ### a look at a list that may change -/
mutual
def noLst : Dt → Bool
  | .lst _ => false
  | .tup ds => noLsts ds
  | _ => true
def noLsts : List Dt → Bool
  | [] => true
  | d :: ds => noLst d && noLsts ds
end
section
variable {K : PySem.W.Frag} {F : Hp} {q : Addr} {us : List V}
mutual
theorem rp_out (hq : F q = some (.lst us)) : ∀ {d : Dt} {v : V}, Rp K F v d → noLst d = true → Rp K (fun a => if a = q then none else F a) v d
  | .non, _, r, _ => rp_non.mpr (rp_non.mp r)
  | .bl _, _, r, _ => rp_bl.mpr (rp_bl.mp r)
  | .int _, _, r, _ => rp_int.mpr (rp_int.mp r)
  | .str _, _, r, _ => rp_str.mpr (rp_str.mp r)
  | .adr _, _, r, _ => rp_adr.mpr (rp_adr.mp r)
  | .lst _, _, _, h => by simp [noLst] at h
  | .dct kvs, _, r, _ => by
    obtain ⟨a, e, h⟩ := rp_dct.mp r
    refine rp_dct.mpr ⟨a, e, ?_⟩
    have : a ≠ q := fun z => by rw [z, hq] at h; cases h
    show (if a = q then none else F a) = _
    rw [if_neg this]; exact h
  | .tup ds, _, r, h => by
    obtain ⟨a, vs, e, h1, h2⟩ := rp_tup.mp r
    refine rp_tup.mpr ⟨a, vs, e, ?_, rps_out hq h2 (by simpa [noLst] using h)⟩
    rcases h1 with (h1 | ⟨o, h1⟩) | h1
    · have : a ≠ q := fun z => by rw [z, hq] at h1; cases h1
      exact .inl (.inl (by show (if a = q then none else F a) = _; rw [if_neg this]; exact h1))
    · have : a ≠ q := fun z => by rw [z, hq] at h1; cases h1
      exact .inl (.inr ⟨o, by show (if a = q then none else F a) = _; rw [if_neg this]; exact h1⟩)
    · exact .inr h1
theorem rps_out (hq : F q = some (.lst us)) : ∀ {ds : List Dt} {vs : List V}, Rps K F vs ds → noLsts ds = true → Rps K (fun a => if a = q then none else F a) vs ds
  | [], _, r, _ => rps_nil.mpr (rps_nil.mp r)
  | d :: ds, _, r, h => by
    obtain ⟨v, w, e, h1, h2⟩ := rps_cons.mp r
    have h' : noLst d = true ∧ noLsts ds = true := by simpa [noLsts] using h
    exact rps_cons.mpr ⟨v, w, e, rp_out hq h1 h'.1, rps_out hq h2 h'.2⟩
end
end
section
variable {T : Tb} {X : Cx} {ρ : Rho} {M : Mem} {E : DE} {a b c e : Expr} {es : List Expr} {da db dc d : Dt} {ds : List Dt} {pos : Pos} {i j : Int} {st : Stmt} {sts rest : List Stmt}
/-- F with the list at q frozen -/
theorem view_in {n ix : Nat} {q : Addr} {F H : Hp} {σ : L2.St} (f : Fine T F H) (s : Slots X.K F σ ρ) (m : MemOk X.K F H M) (hM : M[n]? = some (q, .lst ds)) (hρ : ρ[ix]? = some (some (.adr q))) :
    ∃ vs, H q = some (.lst vs) ∧ F q = none ∧ Rps X.K F vs ds ∧ Fine T (upd F q (.lst vs)) H ∧ Slots X.K (upd F q (.lst vs)) σ (ρ.set ix (some (.lst ds))) := by
  have hq : (q, MO.lst ds) ∈ M := List.mem_of_getElem? hM
  obtain ⟨vs, hv, rv⟩ := (m.at_ _ hq : ObjIs X.K F H q (.lst ds))
  have fq : F q = none := m.out _ hq
  have eF : Ex F (upd F q (.lst vs)) := Ex.new fq
  refine ⟨vs, hv, fq, rv, ⟨fun a u h => ?_, f.tab, fun a ps h => ?_, f.bs.trans eF⟩, ?_⟩
  · by_cases e : a = q
    · subst e; rw [upd_same] at h; rw [← Option.some.inj h]; exact hv
    · rw [upd_ne e] at h; exact f.sub a u h
  · by_cases e : a = q
    · subst e; rw [upd_same] at h; cases h
    · rw [upd_ne e] at h; exact f.nt a ps h
  · have s0 := s.mono eF
    refine ⟨by rw [List.length_set]; exact s0.len, fun j d hj => ?_⟩
    by_cases hji : ix = j
    · subst hji
      have hl : ix < ρ.length := (List.getElem?_eq_some_iff.mp hρ).1
      rw [List.getElem?_set_self hl] at hj
      cases hj
      obtain ⟨v, a1, a2⟩ := s0.at_ ix _ hρ
      rw [rp_adr.mp a2] at a1
      exact ⟨_, a1, rp_lst.mpr ⟨q, vs, rfl, upd_same, rv.mono eF⟩⟩
    · rw [List.getElem?_set_ne hji] at hj
      exact s0.at_ j d hj
/-- .. and thawed -/
theorem view_out {q : Addr} {F H F' H' : Hp} {vs : List V} (f0 : Fine T F H) (m : MemOk X.K F H M) (hv : H q = some (.lst vs)) (fq : F q = none) (f' : Fine T F' H') (s' : Stp [] (upd F q (.lst vs)) H F' H') :
    F' q = some (.lst vs) ∧ Reach T X.K M F H M (fun a => if a = q then none else F' a) H' := by
  have hq' : F' q = some (.lst vs) := s'.ff q _ upd_same
  have ex : Ex F (fun a => if a = q then none else F' a) := fun a u e => by
    have : a ≠ q := ne_of_none e fq
    show (if a = q then none else F' a) = some u
    rw [if_neg this]
    exact s'.ff a u (by rw [upd_ne this]; exact e)
  refine ⟨hq', Reach.pure m ⟨fun a u e => ?_, f'.tab, fun a ps e => ?_, f0.bs.trans ex⟩ ⟨ex, s'.keep, fun a o ha h0 n hF => ?_⟩⟩
  · have e' : (if a = q then none else F' a) = some u := e
    split at e'
    · cases e'
    · exact f'.sub a u e'
  · have e' : (if a = q then none else F' a) = some _ := e
    split at e'
    · cases e'
    · exact f'.nt a ps e'
  · show (if a = q then none else F' a) = none
    by_cases e : a = q
    · rw [if_pos e]
    · rw [if_neg e]
      exact s'.fresh a o ha h0 n (by rw [upd_ne e]; exact hF)
theorem we_view {n ix : Nat} {q : Addr} {Ψ : Dt → Mem → Prop} (hM : M[n]? = some (q, .lst ds)) (hρ : ρ[ix]? = some (some (.adr q))) (h : ED T X e (ρ.set ix (some (.lst ds))) d) (hn : noLst d = true) (k : Ψ d M) : WE T X e ρ M Ψ := fun F H σ Q f s m kk => by
  obtain ⟨vs, hv, fq, _, f1, s1⟩ := view_in f s m hM hρ
  refine h _ H σ Q f1 s1 fun v F' H' f' s' r' => ?_
  obtain ⟨hq', rr⟩ := view_out (X := X) f m hv fq f' s'
  exact kk v d M _ H' k rr (rp_out hq' r' hn)
theorem wt_view {n ix : Nat} {q : Addr} {t : Bool} {Ψ : Bool → Mem → Prop} (hM : M[n]? = some (q, .lst ds)) (hρ : ρ[ix]? = some (some (.adr q))) (h : TD T X e (ρ.set ix (some (.lst ds))) t) (k : Ψ t M) : WT T X e ρ M Ψ := fun F H σ Q f s m kk => by
  obtain ⟨vs, hv, fq, _, f1, s1⟩ := view_in f s m hM hρ
  refine h _ H σ Q f1 s1 fun F' H' f' s' => ?_
  obtain ⟨hq', rr⟩ := view_out (X := X) f m hv fq f' s'
  exact kk t M _ H' k rr

/-! ### new lists that may change -/
variable {ix : Nat} {x : Str} {px : Pos}
theorem w1_newL (h : AD T X es ρ ds) (k : ∀ q, E.nx (ρ.set ix (some (.adr q))) (M ++ [(q, .lst ds)])) (hN : X.N.Nodup) (hi : X.N[ix]? = some x) (hx : Loc X.env.scope x) (hl : ds.length ≤ sizeLine := by exact Nat.le_of_ble_eq_true rfl) (hs : swapsWith (.List es pos) (some (.Name x px)) pos.line X.env = pure false := by rfl) (hf : X.fn x = true ∨ X.env.scope.names.lookup x = some .local := by first | exact .inl rfl | exact .inr rfl) {pos2 : Pos}
    (hs : swapsWith (.List es pos2) (some (.Name x px)) pos.line X.env = pure false := by rfl) : W1 T X (.Assign [.Name x px] (.List es pos2) pos) ρ M E := fun F H σ D f s m kk =>
  PS_w (ps_set hN hi hx (pe_lst pa_w) hs hf) (h F H σ _ f s fun xs F1 H1 f1 s1 r1 => ⟨by rw [r1.length]; exact hl, fun p hp => by
    have q1 := Reach.pure m f1 s1
    have q2 := reach_new (o := .lst ds) (u := .lst xs) f1 q1.mem hp ⟨xs, upd_same, r1⟩
    exact kk.nx _ _ _ _ _ (k p) (q1.trans q2) (((s.mono s1.ff).mono q2.stp.ff).set (rp_adr.mpr rfl))⟩)
/-- x = list(e) -/
theorem w1_newListOf {p : Pos} {pos2 : Pos} (h : ED T X e ρ (.lst ds)) (k : ∀ q, E.nx (ρ.set ix (some (.adr q))) (M ++ [(q, .lst ds)])) (hm : X.mg "list" = none) (hg : Gl X "list") (hN : X.N.Nodup) (hi : X.N[ix]? = some x) (hx : Loc X.env.scope x)
    (hs : swapsWith (.Call (.Name "list" p) [e] [] pos2) (some (.Name x px)) pos.line X.env = pure false := by rfl) (hf : X.fn x = true ∨ X.env.scope.names.lookup x = some .local := by first | exact .inl rfl | exact .inr rfl) (he : starEach [e] X.env = (false, eval e X.env) :: starEach [] X.env := by exact st_any rfl) : W1 T X (.Assign [.Name x px] (.Call (.Name "list" p) [e] [] pos2) pos) ρ M E := fun F H σ D f s m kk =>
  PS_w (ps_set hN hi hx (pe_callTy call_list_of hg hm boot_list (pa_cons pe_w pa_nil he) (by decide) (by decide) he) hs hf) (h F H σ _ f s fun v F1 H1 f1 s1 r1 => by
    obtain ⟨a, vs, e1, h1, h2⟩ := rp_lst.mp r1
    refine ⟨a, vs, by rw [e1], .inl (SqL.of (f1.sub _ _ h1)), fun p hp => ?_⟩
    have q1 := Reach.pure m f1 s1
    have q2 := reach_new (o := .lst ds) (u := .lst vs) f1 q1.mem hp ⟨vs, upd_same, h2⟩
    exact kk.nx _ _ _ _ _ (k p) (q1.trans q2) (((s.mono s1.ff).mono q2.stp.ff).set (rp_adr.mpr rfl)))

/-! ### methods that change a list: the receiver's address comes of an expression -/
/-- e gives the address q -/
abbrev EQ (T : Tb) (X : Cx) (e : Expr) (ρ : Rho) (q : Addr) : Prop := ED T X e ρ (.adr q)
theorem we_mt {o : Expr} {name : Str} {apos : Pos} {id : String} {r : V → List V → Hp → VK → Prop} {Ψ : Dt → Mem → Prop} {q : Addr} {n : Nat} (slot : Slot "list" name id) (hty : typeOf (.builtin id) = pure (.type "method_descriptor")) (hm : MtR X id r) (ho : EQ T X o ρ q) (hM : M[n]? = some (q, .lst ds)) (ha : WA T X (e :: es) ρ M fun xs M' => ∃ ds', M'[n]? = some (q, .lst ds') ∧
      ∀ (F H : Hp) (vs us : List V) (Q : VK), Fine T F H → MemOk X.K F H M' → H q = some (.lst us) → Rps X.K F us ds' → Rps X.K F vs xs → (∀ v d M2 F2 H2, Ψ d M2 → Reach T X.K M' F H M2 F2 H2 → Rp X.K F2 v d → Q v H2) → r (.ref q) vs H Q)
    (hbase : attributeBase o name X.env (eval o X.env) = eval o X.env := by rfl)
    (hfew : ((backTo pos (starEach (e :: es) X.env)).all (fun x => !x.1) && (backToKw pos (keywordEach [] X.env)).all (fun x => x.1.isSome)
      && decide ((e :: es).length + ([] : List Keyword).length + (if ([] : List Keyword).isEmpty then 0 else 1) < 30)) = true := by rfl)
    (hline : (apos.endLine == pos.line) = true := by rfl) (hs : starEach (e :: es) X.env = (false, eval e X.env) :: starEach es X.env := by exact st_any rfl) (hplain : (backTo pos (starEach es X.env)).any (·.1) = false := by rfl) : WE T X (.Call (.Attribute o name apos) (e :: es) [] pos) ρ M Ψ := fun F H σ Q f s m k =>
  PE_w (pe_bm PySem.F.plainAttrs_list slot hty hm pe_w pa_w hbase hfew hline hs hplain) (ho F H σ _ f s fun v F1 H1 f1 s1 r1 => by
    rw [rp_adr.mp r1]
    have q1 := Reach.pure m f1 s1
    obtain ⟨us, hu, ru⟩ := (q1.mem.at_ _ (List.mem_of_getElem? hM) : ObjIs X.K F1 H1 q (.lst ds))
    refine ⟨.inl ⟨rfl, us, SqL.of hu⟩, ha F1 H1 σ _ f1 (s.mono s1.ff) q1.mem fun vs xs M2 F2 H2 ⟨ds', hM', hr⟩ q2 r2 => ?_⟩
    obtain ⟨us', hu', ru'⟩ := (q2.mem.at_ _ (List.mem_of_getElem? hM') : ObjIs X.K F2 H2 q (.lst ds'))
    exact hr F2 H2 vs us' Q q2.fine q2.mem hu' ru' r2 fun v d M3 F3 H3 p3 q3 r3 => k v d M3 F3 H3 p3 ((q1.trans q2).trans q3) r3)
/-- xs.append(e) -/
theorem we_app {o : Expr} {apos : Pos} {Ψ : Dt → Mem → Prop} {q : Addr} {n : Nat} (ho : EQ T X o ρ q) (hM : M[n]? = some (q, .lst ds)) (h : WE T X e ρ M fun d M' => ∃ ds', M'[n]? = some (q, .lst ds') ∧ ds'.length < 100000 ∧ Ψ .non (M'.set n (q, .lst (ds' ++ [d]))))
    (hbase : attributeBase o "append" X.env (eval o X.env) = eval o X.env := by rfl) (hline : (apos.endLine == pos.line) = true := by rfl) (hs : starEach [e] X.env = (false, eval e X.env) :: starEach [] X.env := by exact st_any rfl)
    (hfew : ((backTo pos (starEach [e] X.env)).all (fun x => !x.1) && (backToKw pos (keywordEach [] X.env)).all (fun x => x.1.isSome) && decide (([e] : List Expr).length + ([] : List Keyword).length + (if ([] : List Keyword).isEmpty then 0 else 1) < 30)) = true := by rfl) : WE T X (.Call (.Attribute o "append" apos) [e] [] pos) ρ M Ψ :=
  we_mt PySem.F.slot_list_append PySem.F.type_list_append mt_append ho hM (wa_cons (hst := hs) h fun d M1 ⟨ds', h1, h2, h3⟩ => wa_nil ⟨ds', h1, fun F H vs us Q f m hu ru rv k => by
    obtain ⟨v, rfl, r1⟩ := vs1 rv
    refine ⟨q, us, v, rfl, rfl, hu, by rw [ru.length]; exact Nat.lt_of_lt_of_le h2 (by decide), k .non .non _ F _ h3 ?_ (rp_non.mpr rfl)⟩
    exact reach_set f m h1 hu (.inl ⟨_, rfl⟩) ⟨_, upd_same, ru.append (.cons r1 .nil)⟩⟩) hbase hfew hline hs rfl
/-- xs.extend(e) -/
theorem we_ext {o : Expr} {apos : Pos} {Ψ : Dt → Mem → Prop} {q : Addr} {n : Nat} (ho : EQ T X o ρ q) (hM : M[n]? = some (q, .lst ds)) (h : WE T X e ρ M fun d M' => ∃ ds' xs, d = .lst xs ∧ M'[n]? = some (q, .lst ds') ∧ ds'.length + xs.length ≤ 100000 ∧ Ψ .non (M'.set n (q, .lst (ds' ++ xs))))
    (hbase : attributeBase o "extend" X.env (eval o X.env) = eval o X.env := by rfl) (hline : (apos.endLine == pos.line) = true := by rfl) (hs : starEach [e] X.env = (false, eval e X.env) :: starEach [] X.env := by exact st_any rfl)
    (hfew : ((backTo pos (starEach [e] X.env)).all (fun x => !x.1) && (backToKw pos (keywordEach [] X.env)).all (fun x => x.1.isSome) && decide (([e] : List Expr).length + ([] : List Keyword).length + (if ([] : List Keyword).isEmpty then 0 else 1) < 30)) = true := by rfl) : WE T X (.Call (.Attribute o "extend" apos) [e] [] pos) ρ M Ψ :=
  we_mt PySem.F.slot_list_extend PySem.F.type_list_extend mt_extend ho hM (wa_cons (hst := hs) h fun d M1 ⟨ds', xs, e1, h1, h2, h3⟩ => wa_nil ⟨ds', h1, fun F H vs us Q f m hu ru rv k => by
    subst e1
    obtain ⟨v, rfl, r1⟩ := vs1 rv
    obtain ⟨b, zs, rfl, hb, rz⟩ := rp_lst.mp r1
    refine ⟨q, b, us, zs, rfl, rfl, hu, f.sub _ _ hb, by rw [ru.length, rz.length]; exact Nat.le_trans h2 (by decide), k .non .non _ F _ h3 ?_ (rp_non.mpr rfl)⟩
    exact reach_set f m h1 hu (.inl ⟨_, rfl⟩) ⟨_, upd_same, ru.append rz⟩⟩) hbase hfew hline hs rfl
/-- xs.insert(i, e) -/
theorem we_ins {e2 : Expr} {o : Expr} {apos : Pos} {Ψ : Dt → Mem → Prop} {q : Addr} {n : Nat} (ho : EQ T X o ρ q) (hM : M[n]? = some (q, .lst ds)) (h : WA T X [e, e2] ρ M fun xs M' => ∃ i d ds', xs = [.int i, d] ∧ M'[n]? = some (q, .lst ds') ∧ ds'.length < 100000 ∧ 0 ≤ i ∧ i < 2 ^ 63 ∧ Ψ .non (M'.set n (q, .lst (ds'.take i.toNat ++ [d] ++ ds'.drop i.toNat))))
    (hbase : attributeBase o "insert" X.env (eval o X.env) = eval o X.env := by rfl) (hline : (apos.endLine == pos.line) = true := by rfl) (hs : starEach [e, e2] X.env = (false, eval e X.env) :: starEach [e2] X.env := by exact st_any rfl)
    (hfew : ((backTo pos (starEach [e, e2] X.env)).all (fun x => !x.1) && (backToKw pos (keywordEach [] X.env)).all (fun x => x.1.isSome) && decide (([e, e2] : List Expr).length + ([] : List Keyword).length + (if ([] : List Keyword).isEmpty then 0 else 1) < 30)) = true := by rfl) (hpl : (backTo pos (starEach [e2] X.env)).any (·.1) = false := by rfl) : WE T X (.Call (.Attribute o "insert" apos) [e, e2] [] pos) ρ M Ψ :=
  we_mt PySem.F.slot_list_insert PySem.F.type_list_insert mt_insert ho hM (fun F H σ Q f s m k => h F H σ Q f s m fun vs xs M' F' H' ⟨i, d, ds', e1, h1, h2, h3, h4, h5⟩ q' r' => k vs xs M' F' H' ⟨ds', h1, fun F H vs us Q f m hu ru rv k => by
    subst e1
    obtain ⟨v, w, rfl, r1, r2⟩ := vs2 rv
    rw [rp_int.mp r1]
    refine ⟨q, us, i, w, rfl, rfl, hu, by rw [ru.length]; exact Nat.lt_of_lt_of_le h2 (by decide), h3, h4, k .non .non _ F _ h5 ?_ (rp_non.mpr rfl)⟩
    exact reach_set f m h1 hu (.inl ⟨_, rfl⟩) ⟨_, upd_same, ((ru.take _).append (.cons r2 .nil)).append (ru.drop _)⟩⟩ q' r') hbase hfew hline hs hpl
/-- xs.pop() -/
theorem we_pop {o : Expr} {apos : Pos} {Ψ : Dt → Mem → Prop} {q : Addr} {n : Nat} (ho : EQ T X o ρ q) (hM : M[n]? = some (q, .lst ds)) (hd : ds[ds.length - 1]? = some d) (h : Ψ d (M.set n (q, .lst ds.dropLast)))
    (hbase : attributeBase o "pop" X.env (eval o X.env) = eval o X.env := by rfl) (hline : (apos.endLine == pos.line) = true := by rfl) : WE T X (.Call (.Attribute o "pop" apos) [] [] pos) ρ M Ψ := fun F H σ Q f s m k =>
  PE_w (pe_bm0 PySem.F.plainAttrs_list PySem.F.slot_list_pop PySem.F.type_list_pop mt_pop pe_w hbase hline) (ho F H σ _ f s fun v F1 H1 f1 s1 r1 => by
    rw [rp_adr.mp r1]
    have q1 := Reach.pure m f1 s1
    obtain ⟨us, hu, ru⟩ := (q1.mem.at_ _ (List.mem_of_getElem? hM) : ObjIs X.K F1 H1 q (.lst ds))
    obtain ⟨y, hy, ry⟩ := ru.get hd
    refine ⟨.inl ⟨rfl, us, SqL.of hu⟩, q, us, y, rfl, rfl, hu, by rw [ru.length]; exact hy, k y d _ F1 _ h (q1.trans (reach_set f1 q1.mem hM hu (.inl ⟨_, rfl⟩) ⟨_, upd_same, ?_⟩)) ry⟩
    rw [List.dropLast_eq_take, List.dropLast_eq_take, ru.length]
    exact ru.take _)
/-- xs[i] = e -/
theorem w1_setix {o : Expr} {q : Addr} {n k : Nat} {tpos : Pos} {jx : Expr} (h : WE T X e ρ M fun d M' => ∃ ds' i, M'[n]? = some (q, .lst ds') ∧ EQ T X o ρ q ∧ ED T X jx ρ (.int i) ∧ ixN ds'.length i = some k ∧ E.nx ρ (M'.set n (q, .lst (ds'.set k d))))
    (ha : ∀ v, assign (.Subscript o jx tpos) X.env v = (do
      let ov ← holding [v] (eval o X.env)
      let iv ← holding [v, ov] (eval jx X.env)
      standAt tpos
      holding [v, ov, iv] (setItem ov iv v)
      release [v, ov, iv] []) := by intro _; rfl) (hs : swapsWithSole [.Subscript o jx tpos] e pos.line X.env = pure false := by rfl) (hw : swappedStores [.Subscript o jx tpos] e X.env = pure none := by rfl)
    (h1 : (assignEach [.Subscript o jx tpos] X.env).map (·.2) = [assign (.Subscript o jx tpos) X.env] := by rfl) : W1 T X (.Assign [.Subscript o jx tpos] e pos) ρ M E := fun F H σ D f s m kk =>
  PS_w (ps_asg pe_w (pg_sub pe_w pe_w set_list ha) hs hw h1) (h F H σ _ f s m fun v d M1 F1 H1 ⟨ds', i, hM, ho, hj, hk, p1⟩ q1 r1 => ho F1 H1 σ _ q1.fine (s.at_reach q1) fun v2 F2 H2 f2 s2 r2 => hj F2 H2 σ _ f2 ((s.at_reach q1).mono s2.ff) fun v3 F3 H3 f3 s3 r3 => by
    rw [rp_adr.mp r2, rp_int.mp r3]
    have q3 := (q1.trans (Reach.pure q1.mem f2 s2)).trans (Reach.pure (q1.mem.step s2) f3 s3)
    obtain ⟨us, hu, ru⟩ := (q3.mem.at_ _ (List.mem_of_getElem? hM) : ObjIs X.K F3 H3 q (.lst ds'))
    refine ⟨q, us, i, k, rfl, rfl, hu, by rw [ru.length]; exact hk, ?_⟩
    have q4 := reach_set (o' := .lst (ds'.set k d)) f3 q3.mem hM hu (.inl ⟨_, rfl⟩) ⟨_, upd_same, ru.set k ((r1.mono s2.ff).mono s3.ff)⟩
    exact kk.nx _ _ _ _ _ p1 (q3.trans q4) ((s.at_reach q3).at_reach q4))
end
end BL
set_option maxHeartbeats 4000000
/-! Foundation, part 7: defs by their bodies, the pen's calls, the program's text. -/
namespace BL
open PySem PySem.Spec PyProof.Rows L2 Evl

/-- a def as it stands -/
structure At (W : Wo) (x : Str) (st : Stmt) : Prop where
  ex : ∃ f fd, FunD W.K x x (defArgs st) (defBody st) (defScope st) [] [] f fd ∧ W.mg x = some (.ref f)
abbrev bX (W : Wo) (x : Str) (N : List Str) (sc : Scope) (f : Addr) (cdv : Value) (A : Around) (outer : List Env) (s : Shared) (H : Hp) (E : XK) : Cx := (cxOf CX0 W.P W.w W.K W.mg W.base N x sc f cdv A outer s H E).nox
/-- no defaults: the arguments bind in order -/
def Bnd (x : Str) (st : Stmt) (ps : List Str) : Prop := ∀ (kV doc pm : Value) (an : Option Addr) (cdv ct : Value) (us : List Value), us.length = ps.length → bindArgs (PySem.W.fnOf x x (defArgs st) (defBody st) (defScope st) .none kV doc pm an cdv ct) ⟨us, []⟩ = pure (ps.zip us)
theorem Reach.memless {T : Tb} {K : PySem.W.Frag} {M : Mem} {F H F' H' : Hp} (r : Reach T K [] F H M F' H') : Stp [] F H F' H' ∧ Fine T F' H' := ⟨r.stp, r.fine⟩
theorem MemOk.nil {K : PySem.W.Frag} {F H : Hp} : MemOk K F H [] := ⟨List.nodup_nil, fun _ h => (nomatch h), fun _ h => (nomatch h)⟩
theorem cal_of {W : Wo} {T : Tb} {k : Nat} {x : Str} {st : Stmt} {N ps : List Str} {R : List Dt → Dt → Prop} (a : At W x st) (S : FnScope N ps (defScope st)) (hb : Bnd x st ps)
    (body : ∀ (f : Addr) (cdv : Value) (A : Around) (outer : List Env) (s : Shared) (H : Hp) (E : XK) (ds : List Dt) (d : Dt), Room k (A.deeper (envOfC x (defScope st) s.heap.objs.size f cdv)) → R ds d → ds.length = ps.length →
      WS T (bX W x N (defScope st) f cdv A outer s H E) (defBody st) (startR N ds) [] { nx := fun _ _ => d = .non, rt := fun d' _ => d' = d }) : Cal W T (k + 1) x ps R := by
  obtain ⟨f, fd, F, hm⟩ := a.ex
  have hpl : ps.length ≤ N.length := by have := congrArg List.length S.pre; rw [List.length_take] at this; omega
  refine ⟨f, fd, F.ok S (fun vs H Q E h => h.1) (fun cdv A outer s H vs Q E hr h => ?_), hm, F.kp, F.bindsN hb⟩
  obtain ⟨hl, F0, ds, d, fi, r, g, kk⟩ := h
  have hld : ds.length = ps.length := by rw [← r.length]; exact hl
  refine ⟨_, pss_w.nox, ?_⟩
  have w := body f cdv A outer s H E ds d hr g hld F0 H (L2.start N vs) { nx := fun _ H' => Q .non H', rt := Q } fi (slots_start r (by omega)) MemOk.nil
  exact w ⟨fun σ' ρ' M' F' H' e q _ => by
      have e' : d = .non := e
      exact kk .non F' H' q.fine q.stp (by rw [e']; exact rp_non.mpr rfl), fun v d' M' F' H' e q rr => by
      have e' : d' = d := e
      subst e'
      exact kk v F' H' q.fine q.stp rr, fun _ _ _ _ _ e => e.elim, fun _ _ _ _ _ e => e.elim⟩

/-! ### defs that draw: the pen first -/
def spP (T : Tb) (K : PySem.W.Frag) (n : Nat) (G : List Dt → Nat → (Dt → Nat → Prop) → Prop) : Sp := fun vs H Q _ => vs.length = n ∧ ∃ F p k ds Ψ, Fine T F H ∧ MemOk K F H [(p, .pen k)] ∧ Rps K F vs (.adr p :: ds) ∧ G ds k Ψ ∧
  ∀ v d k' F' H', Ψ d k' → Reach T K [(p, .pen k)] F H [(p, .pen k')] F' H' → Rp K F' v d → Q v H'
structure CalP (W : Wo) (T : Tb) (k : Nat) (x : Str) (ps : List Str) (G : List Dt → Nat → (Dt → Nat → Prop) → Prop) : Prop where
  ex : ∃ f fd, FnOk W.P W.w W.K W.mg W.base CX0 k f fd ps (spP T W.K ps.length G) ∧ W.mg x = some (.ref f) ∧ PySem.W.keepIn W.K (.ref f) = true ∧ Binds W.K fd ps []
theorem calP_of {W : Wo} {T : Tb} {k : Nat} {x : Str} {st : Stmt} {N ps : List Str} {G : List Dt → Nat → (Dt → Nat → Prop) → Prop} (a : At W x st) (S : FnScope N ps (defScope st)) (hb : Bnd x st ps)
    (body : ∀ (f : Addr) (cdv : Value) (A : Around) (outer : List Env) (s : Shared) (H : Hp) (E : XK) (p : Addr) (n : Nat) (ds : List Dt) (Ψ : Dt → Nat → Prop), Room k (A.deeper (envOfC x (defScope st) s.heap.objs.size f cdv)) → G ds n Ψ → ds.length + 1 = ps.length →
      WS T (bX W x N (defScope st) f cdv A outer s H E) (defBody st) (startR N (.adr p :: ds)) [(p, .pen n)] { nx := fun _ _ => False, rt := fun d' M' => ∃ n' rest, M' = (p, .pen n') :: rest ∧ Ψ d' n' }) : CalP W T (k + 1) x ps G := by
  obtain ⟨f, fd, F, hm⟩ := a.ex
  have hpl : ps.length ≤ N.length := by have := congrArg List.length S.pre; rw [List.length_take] at this; omega
  refine ⟨f, fd, F.ok S (fun vs H Q E h => h.1) (fun cdv A outer s H vs Q E hr h => ?_), hm, F.kp, F.bindsN hb⟩
  obtain ⟨hl, F0, p, n, ds, Ψ, fi, me, r, g, kk⟩ := h
  have hld : ds.length + 1 = ps.length := by
    have := r.length
    rw [List.length_cons] at this
    omega
  refine ⟨_, pss_w.nox, ?_⟩
  have w := body f cdv A outer s H E p n ds Ψ hr g hld F0 H (L2.start N vs) { nx := fun _ H' => Q .non H', rt := Q } fi (slots_start r (by rw [List.length_cons]; omega)) me
  refine w ⟨fun σ' ρ' M' F' H' e q _ => e.elim, fun v d' M' F' H' e q rr => ?_, fun _ _ _ _ _ e => e.elim, fun _ _ _ _ _ e => e.elim⟩
  obtain ⟨n', rest, rfl, hΨ⟩ := e
  refine kk v d' n' F' H' hΨ ⟨q.stp, q.fine, ⟨by simp, fun r hr => q.mem.out r ?_, fun r hr => q.mem.at_ r ?_⟩, fun a ha => ?_⟩ rr
  · have : r = (p, .pen n') := by simpa using hr
    simp [this]
  · have : r = (p, .pen n') := by simpa using hr
    simp [this]
  · exact q.dm a (by
      have : a = p := by simpa using ha
      simp [this])
/-- a step of the pen alone, more memory beside it -/
theorem reach_beside {T : Tb} {K : PySem.W.Frag} {p : Addr} {n n' : Nat} {rest : Mem} {F H F' H' : Hp} (m : MemOk K F H ((p, .pen n) :: rest)) (r : Reach T K [(p, .pen n)] F H [(p, .pen n')] F' H') : Reach T K ((p, .pen n) :: rest) F H ((p, .pen n') :: rest) F' H' := by
  have nd := m.nd
  have np : ∀ r ∈ rest, r.1 ∉ dom [(p, MO.pen n)] := fun r hr z => by
    have e : r.1 = p := by simpa using z
    have := (List.nodup_cons.mp nd).1
    exact this (show p ∈ rest.map (·.1) from e ▸ List.mem_map.mpr ⟨r, hr, rfl⟩)
  refine ⟨r.stp.wide fun x hx => ?_, r.fine, ⟨nd, fun q hq => ?_, fun q hq => ?_⟩, fun a ha => .inl ha⟩
  · have : x = p := by simpa using hx
    simp [this]
  · rcases List.mem_cons.mp hq with rfl | hq
    · exact r.mem.out _ (by simp)
    · obtain ⟨u, hu, mu⟩ := (m.at_ q (List.mem_cons_of_mem _ hq) : ObjIs _ _ _ _ _).stands
      exact r.stp.fresh q.1 u (np q hq) hu mu (m.out q (List.mem_cons_of_mem _ hq))
  · rcases List.mem_cons.mp hq with rfl | hq
    · exact r.mem.at_ _ (by simp)
    · obtain ⟨u, hu, nt⟩ := (m.at_ q (List.mem_cons_of_mem _ hq) : ObjIs _ _ _ _ _).stands
      refine (m.at_ q (List.mem_cons_of_mem _ hq) : ObjIs _ _ _ _ _).keep r.stp.ff fun u' e => ?_
      rw [hu] at e
      cases e
      exact r.stp.keep q.1 u (np q hq) hu nt.nt
theorem MemOk.head {K : PySem.W.Frag} {F H : Hp} {q : Addr × MO} {rest : Mem} (m : MemOk K F H (q :: rest)) : MemOk K F H [q] :=
  ⟨by simp, fun p hp => m.out p (by have : p = q := by simpa using hp
                                    simp [this]), fun p hp => m.at_ p (by have : p = q := by simpa using hp
                                                                          simp [this])⟩
section
variable {T : Tb} {X : Cx} {ρ : Rho} {M : Mem} {e : Expr} {es : List Expr} {pos : Pos}
theorem we_callP {n : Nat} {x : Str} {ps : List Str} {G : List Dt → Nat → (Dt → Nat → Prop) → Prop} {p : Pos} {Ψ : Dt → Mem → Prop} (hc : CalP (Cx.wo X) T n x ps G) (hr : Room n X.A) (hg : Gl X x)
    (ha : WA T X (e :: es) ρ M fun ds M' => ∃ q k ds0 rest, ds = .adr q :: ds0 ∧ M' = (q, .pen k) :: rest ∧ ds.length = ps.length ∧ G ds0 k fun d k' => Ψ d ((q, .pen k') :: rest)) (hdb : (x == ("__debug__" : Str)) = false := by decide)
    (he : starEach (e :: es) X.env = (false, eval e X.env) :: starEach es X.env := by exact st_any rfl) (hpl : (backTo pos (starEach es X.env)).any (·.1) = false := by rfl) : WE T X (.Call (.Name x p) (e :: es) [] pos) ρ M Ψ := fun F H σ Q f s m kk => by
  obtain ⟨f0, fd, F0, hm, hk, hb⟩ := hc.ex
  refine PE_w (pe_call (E := E0) F0 hr hg hm hk hb .nil pass0 pa_w hdb he hpl) ?_
  refine ha F H σ _ f s m fun vs ds M1 F1 H1 ⟨q, k, ds0, rest, e1, e2, hl, g⟩ q1 r1 => ?_
  show spP T X.K ps.length G (vs ++ []) H1 Q _
  rw [List.append_nil]
  subst e1 e2
  exact ⟨by rw [r1.length]; exact hl, F1, q, k, ds0, _, q1.fine, q1.mem.head, r1, g, fun v d k' F2 H2 hΨ r2 rv => kk v d _ F2 H2 hΨ (q1.trans (reach_beside q1.mem r2)) rv⟩
end

/-! ### names of a scope, looked at once -/
structure ScOk (N gs : List Str) (sc : Scope) : Prop where
  vis : ∀ x ∈ N, sc.names.lookup x = some .local ∨ sc.names.lookup x = some .cell
  gl : ∀ x ∈ gs, sc.names.lookup x = some .globalImplicit
def scOkB (N gs : List Str) (sc : Scope) : Bool := (N.all fun x => decide (sc.names.lookup x = some .local) || decide (sc.names.lookup x = some .cell)) && gs.all fun x => decide (sc.names.lookup x = some .globalImplicit)
theorem scOk_by {N gs : List Str} {sc : Scope} (h : scOkB N gs sc = true) : ScOk N gs sc := by
  unfold scOkB at h
  simp only [Bool.and_eq_true, List.all_eq_true, Bool.or_eq_true, decide_eq_true_eq] at h
  exact ⟨fun x hx => h.1 x hx, fun x hx => h.2 x hx⟩
def fnScB (N ps : List Str) (sc : Scope) : Bool := decide (sc.kind = .function) && !sc.isCoroutine && !sc.isGenerator && decide N.Nodup && decide (N.take ps.length = ps) && (ps.all fun x => decide (sc.names.lookup x = some .local) || decide (sc.names.lookup x = some .cell)) && sc.names.all fun y => !decide (y.2 = .free)
theorem fnSc_by {N ps : List Str} {sc : Scope} (h : fnScB N ps sc = true) : FnScope N ps sc := by
  unfold fnScB at h
  simp only [Bool.and_eq_true, List.all_eq_true, Bool.or_eq_true, decide_eq_true_eq, Bool.not_eq_true', decide_eq_false_iff_not] at h
  obtain ⟨⟨⟨⟨⟨⟨h1, h2⟩, h3⟩, h4⟩, h5⟩, h6⟩, h7⟩ := h
  exact ⟨h1, h2, h3, h4, h5, h6, fun y hy => h7 y hy⟩
end BL
set_option maxHeartbeats 4000000
/-! the text by places: names by slot, scopes looked at once (printed by gentxt.py) -/
namespace BL
open PySem PySem.Spec PyProof.Rows L2
def top (i : Nat) : Stmt := PySem.Challenge.pw_beatlanes_k33_whole_ranks_and_runs.main.body.getD i (.Pass ⟨0, 0, 0, 0⟩)
abbrev s_is_whole : Stmt := top 10
abbrev N_is_whole : List Str := ["thing"]
abbrev P_is_whole : List Str := ["thing"]
theorem sc_is_whole : FnScope N_is_whole P_is_whole (defScope s_is_whole) := fnSc_by (by decide +kernel)
theorem bn_is_whole : Bnd "is_whole" s_is_whole P_is_whole := fun _ _ _ _ _ _ us hl => match us, hl with | [_], _ => rfl
abbrev s_is_from : Stmt := top 11
abbrev N_is_from : List Str := ["thing", "least", "most"]
abbrev P_is_from : List Str := ["thing", "least", "most"]
theorem sc_is_from : FnScope N_is_from P_is_from (defScope s_is_from) := fnSc_by (by decide +kernel)
theorem bn_is_from : Bnd "is_from" s_is_from P_is_from := fun _ _ _ _ _ _ us hl => match us, hl with | [_, _, _], _ => rfl
abbrev s_divisor : Stmt := top 12
abbrev N_divisor : List Str := ["one", "other"]
abbrev P_divisor : List Str := ["one", "other"]
theorem sc_divisor : FnScope N_divisor P_divisor (defScope s_divisor) := fnSc_by (by decide +kernel)
theorem bn_divisor : Bnd "divisor" s_divisor P_divisor := fun _ _ _ _ _ _ us hl => match us, hl with | [_, _], _ => rfl
abbrev s_lowest : Stmt := top 13
abbrev N_lowest : List Str := ["top", "bottom", "by"]
abbrev P_lowest : List Str := ["top", "bottom"]
theorem sc_lowest : FnScope N_lowest P_lowest (defScope s_lowest) := fnSc_by (by decide +kernel)
theorem bn_lowest : Bnd "lowest" s_lowest P_lowest := fun _ _ _ _ _ _ us hl => match us, hl with | [_, _], _ => rfl
abbrev s_is_fraction : Stmt := top 14
abbrev N_is_fraction : List Str := ["thing"]
abbrev P_is_fraction : List Str := ["thing"]
theorem sc_is_fraction : FnScope N_is_fraction P_is_fraction (defScope s_is_fraction) := fnSc_by (by decide +kernel)
theorem bn_is_fraction : Bnd "is_fraction" s_is_fraction P_is_fraction := fun _ _ _ _ _ _ us hl => match us, hl with | [_], _ => rfl
abbrev s_is_not_below : Stmt := top 15
abbrev N_is_not_below : List Str := ["thing"]
abbrev P_is_not_below : List Str := ["thing"]
theorem sc_is_not_below : FnScope N_is_not_below P_is_not_below (defScope s_is_not_below) := fnSc_by (by decide +kernel)
theorem bn_is_not_below : Bnd "is_not_below" s_is_not_below P_is_not_below := fun _ _ _ _ _ _ us hl => match us, hl with | [_], _ => rfl
abbrev s_is_above : Stmt := top 16
abbrev N_is_above : List Str := ["thing"]
abbrev P_is_above : List Str := ["thing"]
theorem sc_is_above : FnScope N_is_above P_is_above (defScope s_is_above) := fnSc_by (by decide +kernel)
theorem bn_is_above : Bnd "is_above" s_is_above P_is_above := fun _ _ _ _ _ _ us hl => match us, hl with | [_], _ => rfl
abbrev s_fraction : Stmt := top 17
abbrev N_fraction : List Str := ["top", "bottom"]
abbrev P_fraction : List Str := ["top", "bottom"]
theorem sc_fraction : FnScope N_fraction P_fraction (defScope s_fraction) := fnSc_by (by decide +kernel)
theorem bn_fraction : Bnd "fraction" s_fraction P_fraction := fun _ _ _ _ _ _ us hl => match us, hl with | [_, _], _ => rfl
abbrev s_plus : Stmt := top 18
abbrev N_plus : List Str := ["one", "other"]
abbrev P_plus : List Str := ["one", "other"]
theorem sc_plus : FnScope N_plus P_plus (defScope s_plus) := fnSc_by (by decide +kernel)
theorem bn_plus : Bnd "plus" s_plus P_plus := fun _ _ _ _ _ _ us hl => match us, hl with | [_, _], _ => rfl
abbrev s_minus : Stmt := top 19
abbrev N_minus : List Str := ["one", "other"]
abbrev P_minus : List Str := ["one", "other"]
theorem sc_minus : FnScope N_minus P_minus (defScope s_minus) := fnSc_by (by decide +kernel)
theorem bn_minus : Bnd "minus" s_minus P_minus := fun _ _ _ _ _ _ us hl => match us, hl with | [_, _], _ => rfl
abbrev s_times : Stmt := top 20
abbrev N_times : List Str := ["one", "other"]
abbrev P_times : List Str := ["one", "other"]
theorem sc_times : FnScope N_times P_times (defScope s_times) := fnSc_by (by decide +kernel)
theorem bn_times : Bnd "times" s_times P_times := fun _ _ _ _ _ _ us hl => match us, hl with | [_, _], _ => rfl
abbrev s_over : Stmt := top 21
abbrev N_over : List Str := ["one", "other"]
abbrev P_over : List Str := ["one", "other"]
theorem sc_over : FnScope N_over P_over (defScope s_over) := fnSc_by (by decide +kernel)
theorem bn_over : Bnd "over" s_over P_over := fun _ _ _ _ _ _ us hl => match us, hl with | [_, _], _ => rfl
abbrev s_is_less : Stmt := top 22
abbrev N_is_less : List Str := ["one", "other"]
abbrev P_is_less : List Str := ["one", "other"]
theorem sc_is_less : FnScope N_is_less P_is_less (defScope s_is_less) := fnSc_by (by decide +kernel)
theorem bn_is_less : Bnd "is_less" s_is_less P_is_less := fun _ _ _ _ _ _ us hl => match us, hl with | [_, _], _ => rfl
abbrev s_floor_of : Stmt := top 23
abbrev N_floor_of : List Str := ["one"]
abbrev P_floor_of : List Str := ["one"]
theorem sc_floor_of : FnScope N_floor_of P_floor_of (defScope s_floor_of) := fnSc_by (by decide +kernel)
theorem bn_floor_of : Bnd "floor_of" s_floor_of P_floor_of := fun _ _ _ _ _ _ us hl => match us, hl with | [_], _ => rfl
abbrev s_as_fraction : Stmt := top 24
abbrev N_as_fraction : List Str := ["number"]
abbrev P_as_fraction : List Str := ["number"]
theorem sc_as_fraction : FnScope N_as_fraction P_as_fraction (defScope s_as_fraction) := fnSc_by (by decide +kernel)
theorem bn_as_fraction : Bnd "as_fraction" s_as_fraction P_as_fraction := fun _ _ _ _ _ _ us hl => match us, hl with | [_], _ => rfl
abbrev s_part_way : Stmt := top 25
abbrev N_part_way : List Str := ["low", "high", "part"]
abbrev P_part_way : List Str := ["low", "high", "part"]
theorem sc_part_way : FnScope N_part_way P_part_way (defScope s_part_way) := fnSc_by (by decide +kernel)
theorem bn_part_way : Bnd "part_way" s_part_way P_part_way := fun _ _ _ _ _ _ us hl => match us, hl with | [_, _, _], _ => rfl
abbrev s_is_stretch : Stmt := top 29
abbrev N_is_stretch : List Str := ["thing"]
abbrev P_is_stretch : List Str := ["thing"]
theorem sc_is_stretch : FnScope N_is_stretch P_is_stretch (defScope s_is_stretch) := fnSc_by (by decide +kernel)
theorem bn_is_stretch : Bnd "is_stretch" s_is_stretch P_is_stretch := fun _ _ _ _ _ _ us hl => match us, hl with | [_], _ => rfl
abbrev s_growth : Stmt := top 30
abbrev N_growth : List Str := ["stretch"]
abbrev P_growth : List Str := ["stretch"]
theorem sc_growth : FnScope N_growth P_growth (defScope s_growth) := fnSc_by (by decide +kernel)
theorem bn_growth : Bnd "growth" s_growth P_growth := fun _ _ _ _ _ _ us hl => match us, hl with | [_], _ => rfl
abbrev s_go_on : Stmt := top 31
abbrev N_go_on : List Str := ["one", "other"]
abbrev P_go_on : List Str := ["one", "other"]
theorem sc_go_on : FnScope N_go_on P_go_on (defScope s_go_on) := fnSc_by (by decide +kernel)
theorem bn_go_on : Bnd "go_on" s_go_on P_go_on := fun _ _ _ _ _ _ us hl => match us, hl with | [_, _], _ => rfl
abbrev s_is_tempo : Stmt := top 32
abbrev N_is_tempo : List Str := ["thing", "stretches", "rest", "one", "k"]
abbrev P_is_tempo : List Str := ["thing"]
theorem sc_is_tempo : FnScope N_is_tempo P_is_tempo (defScope s_is_tempo) := fnSc_by (by decide +kernel)
theorem bn_is_tempo : Bnd "is_tempo" s_is_tempo P_is_tempo := fun _ _ _ _ _ _ us hl => match us, hl with | [_], _ => rfl
abbrev s_line_at : Stmt := top 33
abbrev N_line_at : List Str := ["stretch", "step"]
abbrev P_line_at : List Str := ["stretch", "step"]
theorem sc_line_at : FnScope N_line_at P_line_at (defScope s_line_at) := fnSc_by (by decide +kernel)
theorem bn_line_at : Bnd "line_at" s_line_at P_line_at := fun _ _ _ _ _ _ us hl => match us, hl with | [_, _], _ => rfl
abbrev s_length_at : Stmt := top 34
abbrev N_length_at : List Str := ["tempo", "step", "stretch"]
abbrev P_length_at : List Str := ["tempo", "step"]
theorem sc_length_at : FnScope N_length_at P_length_at (defScope s_length_at) := fnSc_by (by decide +kernel)
theorem bn_length_at : Bnd "length_at" s_length_at P_length_at := fun _ _ _ _ _ _ us hl => match us, hl with | [_, _], _ => rfl
abbrev s_sum_ahead : Stmt := top 35
abbrev N_sum_ahead : List Str := ["stretch", "steps", "ends"]
abbrev P_sum_ahead : List Str := ["stretch", "steps"]
theorem sc_sum_ahead : FnScope N_sum_ahead P_sum_ahead (defScope s_sum_ahead) := fnSc_by (by decide +kernel)
theorem bn_sum_ahead : Bnd "sum_ahead" s_sum_ahead P_sum_ahead := fun _ _ _ _ _ _ us hl => match us, hl with | [_, _], _ => rfl
abbrev s_moment_by : Stmt := top 36
abbrev N_moment_by : List Str := ["tempo", "place", "step", "part", "total", "stretch"]
abbrev P_moment_by : List Str := ["tempo", "place"]
theorem sc_moment_by : FnScope N_moment_by P_moment_by (defScope s_moment_by) := fnSc_by (by decide +kernel)
theorem bn_moment_by : Bnd "moment_by" s_moment_by P_moment_by := fun _ _ _ _ _ _ us hl => match us, hl with | [_, _], _ => rfl
abbrev s_must_be_place : Stmt := top 37
abbrev N_must_be_place : List Str := ["thing"]
abbrev P_must_be_place : List Str := ["thing"]
theorem sc_must_be_place : FnScope N_must_be_place P_must_be_place (defScope s_must_be_place) := fnSc_by (by decide +kernel)
theorem bn_must_be_place : Bnd "must_be_place" s_must_be_place P_must_be_place := fun _ _ _ _ _ _ us hl => match us, hl with | [_], _ => rfl
abbrev s_is_name : Stmt := top 51
abbrev N_is_name : List Str := ["thing", "letter"]
abbrev P_is_name : List Str := ["thing"]
theorem sc_is_name : FnScope N_is_name P_is_name (defScope s_is_name) := fnSc_by (by decide +kernel)
theorem bn_is_name : Bnd "is_name" s_is_name P_is_name := fun _ _ _ _ _ _ us hl => match us, hl with | [_], _ => rfl
abbrev s_are_tones : Stmt := top 52
abbrev N_are_tones : List Str := ["thing", "one"]
abbrev P_are_tones : List Str := ["thing"]
theorem sc_are_tones : FnScope N_are_tones P_are_tones (defScope s_are_tones) := fnSc_by (by decide +kernel)
theorem bn_are_tones : Bnd "are_tones" s_are_tones P_are_tones := fun _ _ _ _ _ _ us hl => match us, hl with | [_], _ => rfl
abbrev s_is_take : Stmt := top 53
abbrev N_is_take : List Str := ["thing"]
abbrev P_is_take : List Str := ["thing"]
theorem sc_is_take : FnScope N_is_take P_is_take (defScope s_is_take) := fnSc_by (by decide +kernel)
theorem bn_is_take : Bnd "is_take" s_is_take P_is_take := fun _ _ _ _ _ _ us hl => match us, hl with | [_], _ => rfl
abbrev s_is_corner : Stmt := top 54
abbrev N_is_corner : List Str := ["thing"]
abbrev P_is_corner : List Str := ["thing"]
theorem sc_is_corner : FnScope N_is_corner P_is_corner (defScope s_is_corner) := fnSc_by (by decide +kernel)
theorem bn_is_corner : Bnd "is_corner" s_is_corner P_is_corner := fun _ _ _ _ _ _ us hl => match us, hl with | [_], _ => rfl
abbrev s_far_between : Stmt := top 55
abbrev N_far_between : List Str := ["one", "other"]
abbrev P_far_between : List Str := ["one", "other"]
theorem sc_far_between : FnScope N_far_between P_far_between (defScope s_far_between) := fnSc_by (by decide +kernel)
theorem bn_far_between : Bnd "far_between" s_far_between P_far_between := fun _ _ _ _ _ _ us hl => match us, hl with | [_, _], _ => rfl
abbrev s_lies_straight : Stmt := top 56
abbrev N_lies_straight : List Str := ["one", "middle", "other", "rise", "run", "more", "far"]
abbrev P_lies_straight : List Str := ["one", "middle", "other"]
theorem sc_lies_straight : FnScope N_lies_straight P_lies_straight (defScope s_lies_straight) := fnSc_by (by decide +kernel)
theorem bn_lies_straight : Bnd "lies_straight" s_lies_straight P_lies_straight := fun _ _ _ _ _ _ us hl => match us, hl with | [_, _, _], _ => rfl
abbrev s_is_shape : Stmt := top 57
abbrev N_is_shape : List Str := ["thing", "one", "k"]
abbrev P_is_shape : List Str := ["thing"]
theorem sc_is_shape : FnScope N_is_shape P_is_shape (defScope s_is_shape) := fnSc_by (by decide +kernel)
theorem bn_is_shape : Bnd "is_shape" s_is_shape P_is_shape := fun _ _ _ _ _ _ us hl => match us, hl with | [_], _ => rfl
abbrev s_is_laid : Stmt := top 58
abbrev N_is_laid : List Str := ["at", "many"]
abbrev P_is_laid : List Str := ["at", "many"]
theorem sc_is_laid : FnScope N_is_laid P_is_laid (defScope s_is_laid) := fnSc_by (by decide +kernel)
theorem bn_is_laid : Bnd "is_laid" s_is_laid P_is_laid := fun _ _ _ _ _ _ us hl => match us, hl with | [_, _], _ => rfl
abbrev s_is_piece : Stmt := top 59
abbrev N_is_piece : List Str := ["thing", "n", "take", "at", "many", "way", "start", "speed", "shape"]
abbrev P_is_piece : List Str := ["thing"]
theorem sc_is_piece : FnScope N_is_piece P_is_piece (defScope s_is_piece) := fnSc_by (by decide +kernel)
theorem bn_is_piece : Bnd "is_piece" s_is_piece P_is_piece := fun _ _ _ _ _ _ us hl => match us, hl with | [_], _ => rfl
abbrev s_is_lane : Stmt := top 60
abbrev N_is_lane : List Str := ["thing"]
abbrev P_is_lane : List Str := ["thing"]
theorem sc_is_lane : FnScope N_is_lane P_is_lane (defScope s_is_lane) := fnSc_by (by decide +kernel)
theorem bn_is_lane : Bnd "is_lane" s_is_lane P_is_lane := fun _ _ _ _ _ _ us hl => match us, hl with | [_], _ => rfl
abbrev s_first_where : Stmt := top 61
abbrev N_first_where : List Str := ["things", "is_bad", "k"]
abbrev P_first_where : List Str := ["things", "is_bad"]
theorem sc_first_where : FnScope N_first_where P_first_where (defScope s_first_where) := fnSc_by (by decide +kernel)
theorem bn_first_where : Bnd "first_where" s_first_where P_first_where := fun _ _ _ _ _ _ us hl => match us, hl with | [_, _], _ => rfl
abbrev s_numbered : Stmt := top 62
abbrev N_numbered : List Str := ["lanes", "found", "k", "j"]
abbrev P_numbered : List Str := ["lanes"]
theorem sc_numbered : FnScope N_numbered P_numbered (defScope s_numbered) := fnSc_by (by decide +kernel)
theorem bn_numbered : Bnd "numbered" s_numbered P_numbered := fun _ _ _ _ _ _ us hl => match us, hl with | [_], _ => rfl
abbrev s_fault_of_takes : Stmt := top 63
abbrev N_fault_of_takes : List Str := ["takes", "found", "names", "take"]
abbrev P_fault_of_takes : List Str := ["takes"]
theorem sc_fault_of_takes : FnScope N_fault_of_takes P_fault_of_takes (defScope s_fault_of_takes) := fnSc_by (by decide +kernel)
theorem bn_fault_of_takes : Bnd "fault_of_takes" s_fault_of_takes P_fault_of_takes := fun _ _ _ _ _ _ us hl => match us, hl with | [_], _ => rfl
abbrev s_fault_of_lanes : Stmt := top 64
abbrev N_fault_of_lanes : List Str := ["lanes", "found", "names", "lane"]
abbrev P_fault_of_lanes : List Str := ["lanes"]
theorem sc_fault_of_lanes : FnScope N_fault_of_lanes P_fault_of_lanes (defScope s_fault_of_lanes) := fnSc_by (by decide +kernel)
theorem bn_fault_of_lanes : Bnd "fault_of_lanes" s_fault_of_lanes P_fault_of_lanes := fun _ _ _ _ _ _ us hl => match us, hl with | [_], _ => rfl
abbrev s_fault_of_pieces : Stmt := top 65
abbrev N_fault_of_pieces : List Str := ["takes", "lanes", "rows", "k", "j", "piece", "names", "met", "take"]
abbrev P_fault_of_pieces : List Str := ["takes", "lanes"]
theorem sc_fault_of_pieces : FnScope N_fault_of_pieces P_fault_of_pieces (defScope s_fault_of_pieces) := fnSc_by (by decide +kernel)
theorem bn_fault_of_pieces : Bnd "fault_of_pieces" s_fault_of_pieces P_fault_of_pieces := fun _ _ _ _ _ _ us hl => match us, hl with | [_, _], _ => rfl
abbrev s_fault_of : Stmt := top 66
abbrev N_fault_of : List Str := ["thing", "tempo", "takes", "lanes", "one"]
abbrev P_fault_of : List Str := ["thing"]
theorem sc_fault_of : FnScope N_fault_of P_fault_of (defScope s_fault_of) := fnSc_by (by decide +kernel)
theorem bn_fault_of : Bnd "fault_of" s_fault_of P_fault_of := fun _ _ _ _ _ _ us hl => match us, hl with | [_], _ => rfl
abbrev s_must_be_sheet : Stmt := top 67
abbrev N_must_be_sheet : List Str := ["thing"]
abbrev P_must_be_sheet : List Str := ["thing"]
theorem sc_must_be_sheet : FnScope N_must_be_sheet P_must_be_sheet (defScope s_must_be_sheet) := fnSc_by (by decide +kernel)
theorem bn_must_be_sheet : Bnd "must_be_sheet" s_must_be_sheet P_must_be_sheet := fun _ _ _ _ _ _ us hl => match us, hl with | [_], _ => rfl
abbrev s_lane_by : Stmt := top 68
abbrev N_lane_by : List Str := ["sheet", "name", "lane"]
abbrev P_lane_by : List Str := ["sheet", "name"]
theorem sc_lane_by : FnScope N_lane_by P_lane_by (defScope s_lane_by) := fnSc_by (by decide +kernel)
theorem bn_lane_by : Bnd "lane_by" s_lane_by P_lane_by := fun _ _ _ _ _ _ us hl => match us, hl with | [_, _], _ => rfl
abbrev s_take_by : Stmt := top 69
abbrev N_take_by : List Str := ["sheet", "name", "take"]
abbrev P_take_by : List Str := ["sheet", "name"]
theorem sc_take_by : FnScope N_take_by P_take_by (defScope s_take_by) := fnSc_by (by decide +kernel)
theorem bn_take_by : Bnd "take_by" s_take_by P_take_by := fun _ _ _ _ _ _ us hl => match us, hl with | [_, _], _ => rfl
abbrev s_piece_by : Stmt := top 70
abbrev N_piece_by : List Str := ["sheet", "n", "k", "j", "piece"]
abbrev P_piece_by : List Str := ["sheet", "n"]
theorem sc_piece_by : FnScope N_piece_by P_piece_by (defScope s_piece_by) := fnSc_by (by decide +kernel)
theorem bn_piece_by : Bnd "piece_by" s_piece_by P_piece_by := fun _ _ _ _ _ _ us hl => match us, hl with | [_, _], _ => rfl
abbrev s_lane_of : Stmt := top 71
abbrev N_lane_of : List Str := ["sheet", "n", "lane", "piece"]
abbrev P_lane_of : List Str := ["sheet", "n"]
theorem sc_lane_of : FnScope N_lane_of P_lane_of (defScope s_lane_of) := fnSc_by (by decide +kernel)
theorem bn_lane_of : Bnd "lane_of" s_lane_of P_lane_of := fun _ _ _ _ _ _ us hl => match us, hl with | [_, _], _ => rfl
abbrev s_with_lane : Stmt := top 72
abbrev N_with_lane : List Str := ["sheet", "lane", "one"]
abbrev P_with_lane : List Str := ["sheet", "lane"]
theorem sc_with_lane : FnScope N_with_lane P_with_lane (defScope s_with_lane) := fnSc_by (by decide +kernel)
theorem bn_with_lane : Bnd "with_lane" s_with_lane P_with_lane := fun _ _ _ _ _ _ us hl => match us, hl with | [_, _], _ => rfl
abbrev s_with_pieces : Stmt := top 73
abbrev N_with_pieces : List Str := ["sheet", "name", "pieces", "lane"]
abbrev P_with_pieces : List Str := ["sheet", "name", "pieces"]
theorem sc_with_pieces : FnScope N_with_pieces P_with_pieces (defScope s_with_pieces) := fnSc_by (by decide +kernel)
theorem bn_with_pieces : Bnd "with_pieces" s_with_pieces P_with_pieces := fun _ _ _ _ _ _ us hl => match us, hl with | [_, _, _], _ => rfl
abbrev s_with_piece : Stmt := top 74
abbrev N_with_piece : List Str := ["sheet", "n", "pieces", "lane", "found", "piece"]
abbrev P_with_piece : List Str := ["sheet", "n", "pieces"]
theorem sc_with_piece : FnScope N_with_piece P_with_piece (defScope s_with_piece) := fnSc_by (by decide +kernel)
theorem bn_with_piece : Bnd "with_piece" s_with_piece P_with_piece := fun _ _ _ _ _ _ us hl => match us, hl with | [_, _, _], _ => rfl
abbrev s_covers : Stmt := top 76
abbrev N_covers : List Str := ["piece", "place"]
abbrev P_covers : List Str := ["piece", "place"]
theorem sc_covers : FnScope N_covers P_covers (defScope s_covers) := fnSc_by (by decide +kernel)
theorem bn_covers : Bnd "covers" s_covers P_covers := fun _ _ _ _ _ _ us hl => match us, hl with | [_, _], _ => rfl
abbrev s_gone_through : Stmt := top 77
abbrev N_gone_through : List Str := ["tempo", "piece", "place", "begin"]
abbrev P_gone_through : List Str := ["tempo", "piece", "place"]
theorem sc_gone_through : FnScope N_gone_through P_gone_through (defScope s_gone_through) := fnSc_by (by decide +kernel)
theorem bn_gone_through : Bnd "gone_through" s_gone_through P_gone_through := fun _ _ _ _ _ _ us hl => match us, hl with | [_, _, _], _ => rfl
abbrev s_content_by : Stmt := top 78
abbrev N_content_by : List Str := ["tempo", "piece", "place"]
abbrev P_content_by : List Str := ["tempo", "piece", "place"]
theorem sc_content_by : FnScope N_content_by P_content_by (defScope s_content_by) := fnSc_by (by decide +kernel)
theorem bn_content_by : Bnd "content_by" s_content_by P_content_by := fun _ _ _ _ _ _ us hl => match us, hl with | [_, _, _], _ => rfl
abbrev s_level_by : Stmt := top 79
abbrev N_level_by : List Str := ["shape", "place", "k", "low", "high"]
abbrev P_level_by : List Str := ["shape", "place"]
theorem sc_level_by : FnScope N_level_by P_level_by (defScope s_level_by) := fnSc_by (by decide +kernel)
theorem bn_level_by : Bnd "level_by" s_level_by P_level_by := fun _ _ _ _ _ _ us hl => match us, hl with | [_, _], _ => rfl
abbrev s_tone_by : Stmt := top 80
abbrev N_tone_by : List Str := ["sheet", "piece", "place", "tones", "number"]
abbrev P_tone_by : List Str := ["sheet", "piece", "place"]
theorem sc_tone_by : FnScope N_tone_by P_tone_by (defScope s_tone_by) := fnSc_by (by decide +kernel)
theorem bn_tone_by : Bnd "tone_by" s_tone_by P_tone_by := fun _ _ _ _ _ _ us hl => match us, hl with | [_, _, _], _ => rfl
abbrev s_sound_by : Stmt := top 81
abbrev N_sound_by : List Str := ["sheet", "piece", "place", "level"]
abbrev P_sound_by : List Str := ["sheet", "piece", "place"]
theorem sc_sound_by : FnScope N_sound_by P_sound_by (defScope s_sound_by) := fnSc_by (by decide +kernel)
theorem bn_sound_by : Bnd "sound_by" s_sound_by P_sound_by := fun _ _ _ _ _ _ us hl => match us, hl with | [_, _, _], _ => rfl
abbrev s_highest_by : Stmt := top 82
abbrev N_highest_by : List Str := ["lane", "place", "piece"]
abbrev P_highest_by : List Str := ["lane", "place"]
theorem sc_highest_by : FnScope N_highest_by P_highest_by (defScope s_highest_by) := fnSc_by (by decide +kernel)
theorem bn_highest_by : Bnd "highest_by" s_highest_by P_highest_by := fun _ _ _ _ _ _ us hl => match us, hl with | [_, _], _ => rfl
abbrev s_lane_by_place : Stmt := top 83
abbrev N_lane_by_place : List Str := ["sheet", "lane", "place", "piece"]
abbrev P_lane_by_place : List Str := ["sheet", "lane", "place"]
theorem sc_lane_by_place : FnScope N_lane_by_place P_lane_by_place (defScope s_lane_by_place) := fnSc_by (by decide +kernel)
theorem bn_lane_by_place : Bnd "lane_by_place" s_lane_by_place P_lane_by_place := fun _ _ _ _ _ _ us hl => match us, hl with | [_, _, _], _ => rfl
abbrev s_looked_up : Stmt := top 84
abbrev N_looked_up : List Str := ["sheet", "n", "place", "piece"]
abbrev P_looked_up : List Str := ["sheet", "n", "place"]
theorem sc_looked_up : FnScope N_looked_up P_looked_up (defScope s_looked_up) := fnSc_by (by decide +kernel)
theorem bn_looked_up : Bnd "looked_up" s_looked_up P_looked_up := fun _ _ _ _ _ _ us hl => match us, hl with | [_, _, _], _ => rfl
abbrev s_sound_at : Stmt := top 85
abbrev N_sound_at : List Str := ["sheet", "n", "place"]
abbrev P_sound_at : List Str := ["sheet", "n", "place"]
theorem sc_sound_at : FnScope N_sound_at P_sound_at (defScope s_sound_at) := fnSc_by (by decide +kernel)
theorem bn_sound_at : Bnd "sound_at" s_sound_at P_sound_at := fun _ _ _ _ _ _ us hl => match us, hl with | [_, _, _], _ => rfl
abbrev s_lane_at : Stmt := top 86
abbrev N_lane_at : List Str := ["sheet", "lane", "place", "found"]
abbrev P_lane_at : List Str := ["sheet", "lane", "place"]
theorem sc_lane_at : FnScope N_lane_at P_lane_at (defScope s_lane_at) := fnSc_by (by decide +kernel)
theorem bn_lane_at : Bnd "lane_at" s_lane_at P_lane_at := fun _ _ _ _ _ _ us hl => match us, hl with | [_, _, _], _ => rfl
abbrev s_runs_by : Stmt := top 87
abbrev N_runs_by : List Str := ["lane", "piece", "edges", "found", "begin", "end"]
abbrev P_runs_by : List Str := ["lane"]
theorem sc_runs_by : FnScope N_runs_by P_runs_by (defScope s_runs_by) := fnSc_by (by decide +kernel)
theorem bn_runs_by : Bnd "runs_by" s_runs_by P_runs_by := fun _ _ _ _ _ _ us hl => match us, hl with | [_], _ => rfl
abbrev s_runs_of : Stmt := top 88
abbrev N_runs_of : List Str := ["sheet", "lane"]
abbrev P_runs_of : List Str := ["sheet", "lane"]
theorem sc_runs_of : FnScope N_runs_of P_runs_of (defScope s_runs_of) := fnSc_by (by decide +kernel)
theorem bn_runs_of : Bnd "runs_of" s_runs_of P_runs_of := fun _ _ _ _ _ _ us hl => match us, hl with | [_, _], _ => rfl
abbrev s_shift : Stmt := top 90
abbrev N_shift : List Str := ["sheet", "n", "lane", "piece", "less"]
abbrev P_shift : List Str := ["sheet", "n", "lane"]
theorem sc_shift : FnScope N_shift P_shift (defScope s_shift) := fnSc_by (by decide +kernel)
theorem bn_shift : Bnd "shift" s_shift P_shift := fun _ _ _ _ _ _ us hl => match us, hl with | [_, _, _], _ => rfl
abbrev s_raise_to : Stmt := top 91
abbrev N_raise_to : List Str := ["sheet", "n", "rank", "piece", "lane", "others", "one"]
abbrev P_raise_to : List Str := ["sheet", "n", "rank"]
theorem sc_raise_to : FnScope N_raise_to P_raise_to (defScope s_raise_to) := fnSc_by (by decide +kernel)
theorem bn_raise_to : Bnd "raise_to" s_raise_to P_raise_to := fun _ _ _ _ _ _ us hl => match us, hl with | [_, _, _], _ => rfl
abbrev s__law_pen : Stmt := top 93
abbrev N__law_pen : List Str := ["_law_script"]
abbrev P__law_pen : List Str := ["_law_script"]
theorem sc__law_pen : FnScope N__law_pen P__law_pen (defScope s__law_pen) := fnSc_by (by decide +kernel)
theorem bn__law_pen : Bnd "_law_pen" s__law_pen P__law_pen := fun _ _ _ _ _ _ us hl => match us, hl with | [_], _ => rfl
abbrev s__law_draw : Stmt := top 94
abbrev N__law_draw : List Str := ["_law_pen_here", "_law_many", "_law_found", "_law_at", "_law_cell", "_law_number"]
abbrev P__law_draw : List Str := ["_law_pen_here", "_law_many"]
theorem sc__law_draw : FnScope N__law_draw P__law_draw (defScope s__law_draw) := fnSc_by (by decide +kernel)
theorem bn__law_draw : Bnd "_law_draw" s__law_draw P__law_draw := fun _ _ _ _ _ _ us hl => match us, hl with | [_, _], _ => rfl
abbrev s__law_low : Stmt := top 95
abbrev N__law_low : List Str := ["_law_top", "_law_bottom", "_law_one", "_law_other"]
abbrev P__law_low : List Str := ["_law_top", "_law_bottom"]
theorem sc__law_low : FnScope N__law_low P__law_low (defScope s__law_low) := fnSc_by (by decide +kernel)
theorem bn__law_low : Bnd "_law_low" s__law_low P__law_low := fun _ _ _ _ _ _ us hl => match us, hl with | [_, _], _ => rfl
abbrev s__law_sub : Stmt := top 96
abbrev N__law_sub : List Str := ["_law_one", "_law_other"]
abbrev P__law_sub : List Str := ["_law_one", "_law_other"]
theorem sc__law_sub : FnScope N__law_sub P__law_sub (defScope s__law_sub) := fnSc_by (by decide +kernel)
theorem bn__law_sub : Bnd "_law_sub" s__law_sub P__law_sub := fun _ _ _ _ _ _ us hl => match us, hl with | [_, _], _ => rfl
abbrev s__law_mul : Stmt := top 97
abbrev N__law_mul : List Str := ["_law_one", "_law_other"]
abbrev P__law_mul : List Str := ["_law_one", "_law_other"]
theorem sc__law_mul : FnScope N__law_mul P__law_mul (defScope s__law_mul) := fnSc_by (by decide +kernel)
theorem bn__law_mul : Bnd "_law_mul" s__law_mul P__law_mul := fun _ _ _ _ _ _ us hl => match us, hl with | [_, _], _ => rfl
abbrev s__law_div : Stmt := top 98
abbrev N__law_div : List Str := ["_law_one", "_law_other"]
abbrev P__law_div : List Str := ["_law_one", "_law_other"]
theorem sc__law_div : FnScope N__law_div P__law_div (defScope s__law_div) := fnSc_by (by decide +kernel)
theorem bn__law_div : Bnd "_law_div" s__law_div P__law_div := fun _ _ _ _ _ _ us hl => match us, hl with | [_, _], _ => rfl
abbrev s__law_names : Stmt := top 99
abbrev N__law_names : List Str := ["_law_pen_here", "_law_many", "_law_letters", "_law_some", "_law_step", "_law_code", "_law_k", "_law_begin"]
abbrev P__law_names : List Str := ["_law_pen_here", "_law_many"]
theorem sc__law_names : FnScope N__law_names P__law_names (defScope s__law_names) := fnSc_by (by decide +kernel)
theorem bn__law_names : Bnd "_law_names" s__law_names P__law_names := fun _ _ _ _ _ _ us hl => match us, hl with | [_, _], _ => rfl
abbrev s__law_numbers : Stmt := top 100
abbrev N__law_numbers : List Str := ["_law_pen_here", "_law_many", "_law_start", "_law_step", "_law_k"]
abbrev P__law_numbers : List Str := ["_law_pen_here", "_law_many"]
theorem sc__law_numbers : FnScope N__law_numbers P__law_numbers (defScope s__law_numbers) := fnSc_by (by decide +kernel)
theorem bn__law_numbers : Bnd "_law_numbers" s__law_numbers P__law_numbers := fun _ _ _ _ _ _ us hl => match us, hl with | [_, _], _ => rfl
abbrev s__law_above : Stmt := top 101
abbrev N__law_above : List Str := ["_law_pen_here", "_law_far"]
abbrev P__law_above : List Str := ["_law_pen_here"]
theorem sc__law_above : FnScope N__law_above P__law_above (defScope s__law_above) := fnSc_by (by decide +kernel)
theorem bn__law_above : Bnd "_law_above" s__law_above P__law_above := fun _ _ _ _ _ _ us hl => match us, hl with | [_], _ => rfl
abbrev s__law_from : Stmt := top 102
abbrev N__law_from : List Str := ["_law_pen_here"]
abbrev P__law_from : List Str := ["_law_pen_here"]
theorem sc__law_from : FnScope N__law_from P__law_from (defScope s__law_from) := fnSc_by (by decide +kernel)
theorem bn__law_from : Bnd "_law_from" s__law_from P__law_from := fun _ _ _ _ _ _ us hl => match us, hl with | [_], _ => rfl
abbrev s__law_goes_on : Stmt := top 103
abbrev N__law_goes_on : List Str := ["_law_one", "_law_other", "_law_rise"]
abbrev P__law_goes_on : List Str := ["_law_one", "_law_other"]
theorem sc__law_goes_on : FnScope N__law_goes_on P__law_goes_on (defScope s__law_goes_on) := fnSc_by (by decide +kernel)
theorem bn__law_goes_on : Bnd "_law_goes_on" s__law_goes_on P__law_goes_on := fun _ _ _ _ _ _ us hl => match us, hl with | [_, _], _ => rfl
abbrev s__law_tempo : Stmt := top 104
abbrev N__law_tempo : List Str := ["_law_pen_here", "_law_most", "_law_rest", "_law_stretches", "_law_k", "_law_first", "_law_last", "_law_span"]
abbrev P__law_tempo : List Str := ["_law_pen_here", "_law_most"]
theorem sc__law_tempo : FnScope N__law_tempo P__law_tempo (defScope s__law_tempo) := fnSc_by (by decide +kernel)
theorem bn__law_tempo : Bnd "_law_tempo" s__law_tempo P__law_tempo := fun _ _ _ _ _ _ us hl => match us, hl with | [_, _], _ => rfl
abbrev s__law_take : Stmt := top 105
abbrev N__law_take : List Str := ["_law_pen_here", "_law_name", "_law_many", "_law_far", "_law_k"]
abbrev P__law_take : List Str := ["_law_pen_here", "_law_name"]
theorem sc__law_take : FnScope N__law_take P__law_take (defScope s__law_take) := fnSc_by (by decide +kernel)
theorem bn__law_take : Bnd "_law_take" s__law_take P__law_take := fun _ _ _ _ _ _ us hl => match us, hl with | [_, _], _ => rfl
abbrev s__law_plain : Stmt := top 106
abbrev N__law_plain : List Str := ["_law_corners", "_law_found", "_law_k", "_law_is_straight", "_law_low_here", "_law_middle", "_law_high", "_law_rise"]
abbrev P__law_plain : List Str := ["_law_corners"]
theorem sc__law_plain : FnScope N__law_plain P__law_plain (defScope s__law_plain) := fnSc_by (by decide +kernel)
theorem bn__law_plain : Bnd "_law_plain" s__law_plain P__law_plain := fun _ _ _ _ _ _ us hl => match us, hl with | [_], _ => rfl
abbrev s__law_shape : Stmt := top 107
abbrev N__law_shape : List Str := ["_law_pen_here", "_law_many", "_law_parts", "_law_corners", "_law_k"]
abbrev P__law_shape : List Str := ["_law_pen_here", "_law_many"]
theorem sc__law_shape : FnScope N__law_shape P__law_shape (defScope s__law_shape) := fnSc_by (by decide +kernel)
theorem bn__law_shape : Bnd "_law_shape" s__law_shape P__law_shape := fun _ _ _ _ _ _ us hl => match us, hl with | [_, _], _ => rfl
abbrev s__law_piece : Stmt := top 108
abbrev N__law_piece : List Str := ["_law_pen_here", "_law_n", "_law_take_here", "_law_at", "_law_many", "_law_start", "_law_speed", "_law_way"]
abbrev P__law_piece : List Str := ["_law_pen_here", "_law_n", "_law_take_here"]
theorem sc__law_piece : FnScope N__law_piece P__law_piece (defScope s__law_piece) := fnSc_by (by decide +kernel)
theorem bn__law_piece : Bnd "_law_piece" s__law_piece P__law_piece := fun _ _ _ _ _ _ us hl => match us, hl with | [_, _, _], _ => rfl
abbrev s__law_sheet : Stmt := top 109
abbrev N__law_sheet : List Str := ["_law_pen_here", "_law_lanes", "_law_pieces", "_law_name", "_law_takes", "_law_names_here", "_law_laid", "_law_n", "_law_at", "_law_piece_here", "_law_found", "_law_some"]
abbrev P__law_sheet : List Str := ["_law_pen_here", "_law_lanes", "_law_pieces"]
theorem sc__law_sheet : FnScope N__law_sheet P__law_sheet (defScope s__law_sheet) := fnSc_by (by decide +kernel)
theorem bn__law_sheet : Bnd "_law_sheet" s__law_sheet P__law_sheet := fun _ _ _ _ _ _ us hl => match us, hl with | [_, _, _], _ => rfl
abbrev s__law_place : Stmt := top 110
abbrev N__law_place : List Str := ["_law_sheet_here", "_law_n", "_law_lane", "_law_rank", "_law_piece_here"]
abbrev P__law_place : List Str := ["_law_sheet_here", "_law_n"]
theorem sc__law_place : FnScope N__law_place P__law_place (defScope s__law_place) := fnSc_by (by decide +kernel)
theorem bn__law_place : Bnd "_law_place" s__law_place P__law_place := fun _ _ _ _ _ _ us hl => match us, hl with | [_, _], _ => rfl
abbrev s__law_pieces_of : Stmt := top 111
abbrev N__law_pieces_of : List Str := ["_law_sheet_here", "_law_found", "_law_lane"]
abbrev P__law_pieces_of : List Str := ["_law_sheet_here"]
theorem sc__law_pieces_of : FnScope N__law_pieces_of P__law_pieces_of (defScope s__law_pieces_of) := fnSc_by (by decide +kernel)
theorem bn__law_pieces_of : Bnd "_law_pieces_of" s__law_pieces_of P__law_pieces_of := fun _ _ _ _ _ _ us hl => match us, hl with | [_], _ => rfl
abbrev s__law_good_sheet : Stmt := top 112
abbrev N__law_good_sheet : List Str := ["_law_pen_here", "_law_sheet_here"]
abbrev P__law_good_sheet : List Str := ["_law_pen_here"]
theorem sc__law_good_sheet : FnScope N__law_good_sheet P__law_good_sheet (defScope s__law_good_sheet) := fnSc_by (by decide +kernel)
theorem bn__law_good_sheet : Bnd "_law_good_sheet" s__law_good_sheet P__law_good_sheet := fun _ _ _ _ _ _ us hl => match us, hl with | [_], _ => rfl
abbrev s__law_steps : Stmt := top 113
abbrev N__law_steps : List Str := ["_law_spans", "_law_found", "_law_begin", "_law_end", "_law_told", "_law_step"]
abbrev P__law_steps : List Str := ["_law_spans"]
theorem sc__law_steps : FnScope N__law_steps P__law_steps (defScope s__law_steps) := fnSc_by (by decide +kernel)
theorem bn__law_steps : Bnd "_law_steps" s__law_steps P__law_steps := fun _ _ _ _ _ _ us hl => match us, hl with | [_], _ => rfl
abbrev s__law_runs : Stmt := top 114
abbrev N__law_runs : List Str := ["_law_sheet_here", "_law_name"]
abbrev P__law_runs : List Str := ["_law_sheet_here", "_law_name"]
theorem sc__law_runs : FnScope N__law_runs P__law_runs (defScope s__law_runs) := fnSc_by (by decide +kernel)
theorem bn__law_runs : Bnd "_law_runs" s__law_runs P__law_runs := fun _ _ _ _ _ _ us hl => match us, hl with | [_, _], _ => rfl
abbrev s__law_by_rank : Stmt := top 115
abbrev N__law_by_rank : List Str := ["_law_sheet_here", "_law_name", "_law_found", "_law_lane", "_law_piece_here"]
abbrev P__law_by_rank : List Str := ["_law_sheet_here", "_law_name"]
theorem sc__law_by_rank : FnScope N__law_by_rank P__law_by_rank (defScope s__law_by_rank) := fnSc_by (by decide +kernel)
theorem bn__law_by_rank : Bnd "_law_by_rank" s__law_by_rank P__law_by_rank := fun _ _ _ _ _ _ us hl => match us, hl with | [_, _], _ => rfl
abbrev s__law_right : Stmt := top 116
abbrev N__law_right : List Str := ["_law_sheet_here", "_law_n", "_law_lane", "_law_rank", "_law_piece_here", "_law_mine", "_law_high", "_law_low_here", "_law_others", "_law_covered", "_law_left", "_law_name", "_law_there", "_law_step", "_law_one"]
abbrev P__law_right : List Str := ["_law_sheet_here", "_law_n"]
theorem sc__law_right : FnScope N__law_right P__law_right (defScope s__law_right) := fnSc_by (by decide +kernel)
theorem bn__law_right : Bnd "_law_right" s__law_right P__law_right := fun _ _ _ _ _ _ us hl => match us, hl with | [_, _], _ => rfl
abbrev s_law : Stmt := top 117
abbrev N_law : List Str := ["_law_script", "_law_pen_here", "_law_sheet_here", "_law_bout", "_law_pieces", "_law_n", "_law_lane", "_law_rank", "_law_piece_here", "_law_place_here", "_law_high", "_law_sound"]
abbrev P_law : List Str := ["_law_script"]
theorem sc_law : FnScope N_law P_law (defScope s_law) := fnSc_by (by decide +kernel)
theorem bn_law : Bnd "law" s_law P_law := fun _ _ _ _ _ _ us hl => match us, hl with | [_], _ => rfl
end BL
set_option maxHeartbeats 4000000
/-! the mathematics, part 0: fractions; what the defs tell. -/
namespace BL
open PySem PySem.Spec L2

/-! ### bits -/
theorem Bt.mul {m n : Nat} {i j : Int} (h1 : Bt m i) (h2 : Bt n j) : Bt (m + n) (i * j) := by
  unfold Bt at *
  rw [Int.natAbs_mul, Nat.pow_add]
  exact Nat.mul_lt_mul'' h1 h2
theorem Bt.up {m n : Nat} {i : Int} (h : Bt m i) (l : m ≤ n) : Bt n i := Nat.lt_of_lt_of_le h (Nat.pow_le_pow_right (by decide) l)
theorem Bt.add {m n : Nat} {i j : Int} (h1 : Bt m i) (h2 : Bt n j) : Bt (max m n + 1) (i + j) := by
  have a := h1.up (Nat.le_max_left m n)
  have b := h2.up (Nat.le_max_right m n)
  unfold Bt at *
  rw [Nat.pow_succ]
  omega
theorem Bt.neg {n : Nat} {i : Int} (h : Bt n i) : Bt n (-i) := by
  unfold Bt at *
  rw [Int.natAbs_neg]; exact h
theorem Bt.sub {m n : Nat} {i j : Int} (h1 : Bt m i) (h2 : Bt n j) : Bt (max m n + 1) (i - j) := by
  have h := h1.add h2.neg
  rw [← Int.sub_eq_add_neg] at h
  exact h
theorem Bt.of_le {n : Nat} {i j : Int} (h0 : 0 ≤ i) (h : i ≤ j) (hj : Bt n j) : Bt n i := Nat.lt_of_le_of_lt (by omega) hj
theorem bt_of {n : Nat} {i : Int} (h0 : -(2 ^ n : Nat) < i) (h : i < (2 ^ n : Nat)) : Bt n i := by
  unfold Bt
  omega

/-! ### fractions -/
abbrev Fr := Int × Int
abbrev fr (a b : Int) : Dt := .tup [.int a, .int b]
abbrev frp (x : Fr) : Dt := fr x.1 x.2
def gcdI (a b : Int) : Int := (Int.gcd a b : Nat)
def lowF (t b : Int) : Fr := (t / gcdI t b, b / gcdI t b)
/-- of at most n bits above and below, the bottom above nought -/
structure FB (n : Nat) (a b : Int) : Prop where
  tp : Bt n a
  bt : Bt n b
  ps : 0 < b
/-- a good fraction -/
structure Fv (a b : Int) : Prop where
  ps : 0 < b
  cop : gcdI a b = 1
theorem gcdI_pos {a b : Int} (h : 0 < b) : 0 < gcdI a b := by
  unfold gcdI
  have : 0 < Int.gcd a b := Int.gcd_pos_of_ne_zero_right a (by omega)
  omega
theorem gcdI_dvd_l (a b : Int) : gcdI a b ∣ a := Int.gcd_dvd_left a b
theorem gcdI_dvd_r (a b : Int) : gcdI a b ∣ b := Int.gcd_dvd_right a b
theorem natAbs_div_le (a : Int) {g : Int} (h : g ∣ a) : (a / g).natAbs ≤ a.natAbs := by
  rw [Int.natAbs_ediv_of_dvd h]
  exact Nat.div_le_self _ _
theorem lowF_mul {t b : Int} (h : 0 < b) : (lowF t b).1 * gcdI t b = t ∧ (lowF t b).2 * gcdI t b = b :=
  ⟨Int.ediv_mul_cancel (gcdI_dvd_l t b), Int.ediv_mul_cancel (gcdI_dvd_r t b)⟩
theorem lowF_pos {t b : Int} (h : 0 < b) : 0 < (lowF t b).2 := by
  have g := gcdI_pos (a := t) h
  have e := (lowF_mul (t := t) h).2
  rw [← e] at h
  exact Int.pos_of_mul_pos_left h g
theorem lowF_fb {n : Nat} {t b : Int} (h0 : 0 < b) (ht : Bt n t) (hb : Bt n b) : FB n (lowF t b).1 (lowF t b).2 :=
  ⟨Nat.lt_of_le_of_lt (natAbs_div_le t (gcdI_dvd_l t b)) ht, Nat.lt_of_le_of_lt (natAbs_div_le b (gcdI_dvd_r t b)) hb, lowF_pos h0⟩
theorem lowF_fv {t b : Int} (h0 : 0 < b) : Fv (lowF t b).1 (lowF t b).2 := by
  refine ⟨lowF_pos h0, ?_⟩
  have hg : 0 < Int.gcd t b := Int.gcd_pos_of_ne_zero_right t (by omega)
  have := Int.gcd_ediv_gcd_ediv_gcd hg
  show ((Int.gcd (t / (Int.gcd t b : Nat)) (b / (Int.gcd t b : Nat)) : Nat) : Int) = 1
  rw [this]
  rfl
theorem FB.up {m n : Nat} {a b : Int} (h : FB m a b) (l : m ≤ n) : FB n a b := ⟨h.tp.up l, h.bt.up l, h.ps⟩
/-- the value -/
def val (a b : Int) : Rat := (a : Rat) / (b : Rat)
abbrev valp (x : Fr) : Rat := val x.1 x.2
theorem cast_ne {b : Int} (h : 0 < b) : (b : Rat) ≠ 0 := by
  intro z
  have : b = 0 := by exact_mod_cast z
  omega
theorem cast_pos {b : Int} (h : 0 < b) : (0 : Rat) < (b : Rat) := by exact_mod_cast h
theorem val_eq {a b c e : Int} (h : 0 < b) (k : 0 < e) : val a b = val c e ↔ a * e = c * b := by
  have h1 := cast_ne h
  have h2 := cast_ne k
  unfold val
  constructor
  · intro z
    have : (a : Rat) * e = c * b := by grind
    exact_mod_cast this
  · intro z
    have : (a : Rat) * e = c * b := by exact_mod_cast z
    grind
theorem val_lt {a b c e : Int} (h : 0 < b) (k : 0 < e) : val a b < val c e ↔ a * e < c * b := by
  have h1 := cast_pos h
  have h2 := cast_pos k
  have e1 : val a b * (b * e) = a * e := by unfold val; have := cast_ne h; grind
  have e2 : val c e * (b * e) = c * b := by unfold val; have := cast_ne k; grind
  have hp : (0 : Rat) < b * e := Rat.mul_pos h1 h2
  constructor
  · intro z
    have := Rat.mul_lt_mul_of_pos_right z hp
    rw [e1, e2] at this
    exact_mod_cast this
  · intro z
    have z' : (a : Rat) * e < c * b := by exact_mod_cast z
    rw [← e1, ← e2] at z'
    exact Rat.lt_of_mul_lt_mul_right z' (Rat.le_of_lt hp)
theorem val_low {t b : Int} (h : 0 < b) : valp (lowF t b) = val t b := by
  have g := gcdI_pos (a := t) h
  obtain ⟨e1, e2⟩ := lowF_mul (t := t) h
  refine (val_eq (lowF_pos h) h).mpr ?_
  generalize (lowF t b).1 = p at *
  generalize (lowF t b).2 = q at *
  generalize gcdI t b = w at *
  subst e1 e2
  grind
theorem dvd_cop {b a e : Int} (d : b ∣ a * e) (g : Int.gcd b a = 1) : b ∣ e := by
  have h := Int.gcd_mul_right_right_of_gcd_eq_one (k := e) g
  have h2 : Int.gcd b (a * e) = b.natAbs := Int.gcd_eq_natAbs_left d
  rw [h2] at h
  have h3 := Int.gcd_dvd_right b e
  rw [← h] at h3
  exact Int.natAbs_dvd.mp h3
/-- lowered, of one value: one -/
theorem fv_eq {a b c e : Int} (h : Fv a b) (k : Fv c e) (z : a * e = c * b) : a = c ∧ b = e := by
  have h1 : b ∣ e := by
    have d : b ∣ a * e := ⟨c, by rw [z, Int.mul_comm]⟩
    have g : Int.gcd b a = 1 := by
      have := h.cop
      unfold gcdI at this
      rw [Int.gcd_comm]
      omega
    exact dvd_cop d g
  have h2 : e ∣ b := by
    have d : e ∣ c * b := ⟨a, by rw [← z, Int.mul_comm]⟩
    have g : Int.gcd e c = 1 := by
      have := k.cop
      unfold gcdI at this
      rw [Int.gcd_comm]
      omega
    exact dvd_cop d g
  have eb : b = e := Int.dvd_antisymm (by have := h.ps; omega) (by have := k.ps; omega) h1 h2
  refine ⟨?_, eb⟩
  rw [eb] at z
  have := k.ps
  exact Int.eq_of_mul_eq_mul_right (by omega) z
theorem low_eq {t b t' b' : Int} (h : 0 < b) (k : 0 < b') : lowF t b = lowF t' b' ↔ t * b' = t' * b := by
  constructor
  · intro z
    have e1 := val_low (t := t) h
    have e2 := val_low (t := t') k
    rw [z, e2] at e1
    exact (val_eq h k).mp e1.symm
  · intro z
    have e1 := val_low (t := t) h
    have e2 := val_low (t := t') k
    have e3 : valp (lowF t b) = valp (lowF t' b') := by rw [e1, e2]; exact (val_eq h k).mpr z
    have e4 := (val_eq (lowF_pos h) (lowF_pos k)).mp e3
    obtain ⟨x, y⟩ := fv_eq (lowF_fv h) (lowF_fv k) e4
    exact Prod.ext x y
/-- a lowered one lowered again is itself -/
theorem low_fv {a b : Int} (h : Fv a b) : lowF a b = (a, b) := by
  unfold lowF
  rw [h.cop, Int.ediv_one, Int.ediv_one]

/-! ### sums, products, quotients -/
def plusF (x y : Fr) : Fr := lowF (x.1 * y.2 + y.1 * x.2) (x.2 * y.2)
def minusF (x y : Fr) : Fr := lowF (x.1 * y.2 - y.1 * x.2) (x.2 * y.2)
def timesF (x y : Fr) : Fr := lowF (x.1 * y.1) (x.2 * y.2)
def overF (x y : Fr) : Fr := lowF (x.1 * y.2) (x.2 * y.1)
def partF (l h p : Fr) : Fr := plusF l (timesF (minusF h l) p)
abbrev FBp (n : Nat) (x : Fr) : Prop := FB n x.1 x.2
abbrev Fvp (x : Fr) : Prop := Fv x.1 x.2
variable {x y l h p : Fr} {m n k : Nat}
theorem plusF_fb (a : FBp m x) (b : FBp n y) : FBp (m + n + 1) (plusF x y) := by
  refine lowF_fb (Int.mul_pos a.ps b.ps) ?_ ((a.bt.mul b.bt).up (by omega))
  exact ((a.tp.mul b.bt).add (b.tp.mul a.bt)).up (by omega)
theorem minusF_fb (a : FBp m x) (b : FBp n y) : FBp (m + n + 1) (minusF x y) := by
  refine lowF_fb (Int.mul_pos a.ps b.ps) ?_ ((a.bt.mul b.bt).up (by omega))
  exact ((a.tp.mul b.bt).sub (b.tp.mul a.bt)).up (by omega)
theorem timesF_fb (a : FBp m x) (b : FBp n y) : FBp (m + n) (timesF x y) := lowF_fb (Int.mul_pos a.ps b.ps) (a.tp.mul b.tp) (a.bt.mul b.bt)
theorem overF_fb (a : FBp m x) (b : FBp n y) (hy : 0 < y.1) : FBp (m + n) (overF x y) := lowF_fb (Int.mul_pos a.ps hy) (a.tp.mul b.bt) (a.bt.mul b.tp)
theorem partF_fb (a : FBp m l) (b : FBp n h) (c : FBp k p) : FBp (m + (n + m + 1 + k) + 1) (partF l h p) := plusF_fb a (timesF_fb (minusF_fb b a) c)
theorem plusF_val (a : 0 < x.2) (b : 0 < y.2) : valp (plusF x y) = valp x + valp y := by
  show valp (lowF _ _) = _
  rw [val_low (Int.mul_pos a b)]
  have h1 := cast_ne a
  have h2 := cast_ne b
  unfold valp val
  simp only [Rat.intCast_add, Rat.intCast_mul]
  grind
theorem minusF_val (a : 0 < x.2) (b : 0 < y.2) : valp (minusF x y) = valp x - valp y := by
  show valp (lowF _ _) = _
  rw [val_low (Int.mul_pos a b)]
  have h1 := cast_ne a
  have h2 := cast_ne b
  unfold valp val
  simp only [Rat.intCast_sub, Rat.intCast_mul]
  grind
theorem timesF_val (a : 0 < x.2) (b : 0 < y.2) : valp (timesF x y) = valp x * valp y := by
  show valp (lowF _ _) = _
  rw [val_low (Int.mul_pos a b)]
  have h1 := cast_ne a
  have h2 := cast_ne b
  unfold valp val
  simp only [Rat.intCast_mul]
  grind
theorem overF_val (a : 0 < x.2) (b : 0 < y.2) (c : 0 < y.1) : valp (overF x y) = valp x / valp y := by
  show valp (lowF _ _) = _
  rw [val_low (Int.mul_pos a c)]
  have h1 := cast_ne a
  have h2 := cast_ne b
  have h3 := cast_ne c
  unfold valp val
  simp only [Rat.intCast_mul]
  grind
theorem plusF_pos (a : 0 < x.2) (b : 0 < y.2) : 0 < (plusF x y).2 := lowF_pos (Int.mul_pos a b)
theorem minusF_pos (a : 0 < x.2) (b : 0 < y.2) : 0 < (minusF x y).2 := lowF_pos (Int.mul_pos a b)
theorem timesF_pos (a : 0 < x.2) (b : 0 < y.2) : 0 < (timesF x y).2 := lowF_pos (Int.mul_pos a b)
theorem overF_pos (a : 0 < x.2) (b : 0 < y.1) : 0 < (overF x y).2 := lowF_pos (Int.mul_pos a b)
theorem partF_val (a : 0 < l.2) (b : 0 < h.2) (c : 0 < p.2) : valp (partF l h p) = valp l + (valp h - valp l) * valp p := by
  unfold partF
  rw [plusF_val a (timesF_pos (minusF_pos b a) c), timesF_val (minusF_pos b a) c, minusF_val b a]
theorem partF_pos (a : 0 < l.2) (b : 0 < h.2) (c : 0 < p.2) : 0 < (partF l h p).2 := plusF_pos a (timesF_pos (minusF_pos b a) c)
theorem val_pos {a b : Int} (h : 0 < b) : 0 < val a b ↔ 0 < a := by
  have := val_lt (a := 0) (b := 1) (c := a) (e := b) (by decide) h
  have e0 : val 0 1 = 0 := by unfold val; grind
  rw [e0] at this
  rw [this]
  omega
theorem val_nn {a b : Int} (h : 0 < b) : 0 ≤ val a b ↔ 0 ≤ a := by
  have := val_lt (a := a) (b := b) (c := 0) (e := 1) h (by decide)
  have e0 : val 0 1 = 0 := by unfold val; grind
  rw [e0] at this
  rw [← Rat.not_lt, this]
  omega
end BL
set_option maxHeartbeats 4000000
/-! the things of the program as plain data: tempo, shape, piece, lane, sheet -/
namespace BL
open PySem PySem.Spec PyProof.Rows L2 Evl

/-- a fraction of at most n bits, in lowest terms -/
structure Gf (n : Nat) (x : Fr) : Prop where
  fb : FBp n x
  fv : Fvp x
theorem Gf.up {m n : Nat} {x : Fr} (h : Gf m x) (l : m ≤ n) : Gf n x := ⟨h.fb.up l, h.fv⟩
/-! ### tempo -/
structure Sg where
  many : Int
  first : Fr
  last : Fr
@[reducible] def Sg.d (s : Sg) : Dt := .tup [.int s.many, frp s.first, frp s.last]
structure Tm where
  sts : List Sg
  rest : Fr
@[reducible] def Tm.d (t : Tm) : Dt := .tup [.tup (t.sts.map Sg.d), frp t.rest]
structure GSg (s : Sg) : Prop where
  m1 : 1 ≤ s.many
  m2 : s.many ≤ 9000
  f : Gf 32 s.first
  f0 : 0 < s.first.1
  l : Gf 32 s.last
  l0 : 0 < s.last.1
def growF (s : Sg) : Fr := overF (minusF s.last s.first) (s.many, 1)
def goOnB (a b : Sg) : Bool := decide (a.last = b.first) && decide (growF a = growF b)
structure GTm (t : Tm) : Prop where
  len : t.sts.length ≤ 3
  sg : ∀ s ∈ t.sts, GSg s
  r : Gf 32 t.rest
  r0 : 0 < t.rest.1
  go : ∀ (i : Nat) (a b : Sg), t.sts[i]? = some a → t.sts[i + 1]? = some b → goOnB a b = false
  end_ : ∀ s, t.sts.getLast? = some s → ¬ (s.first = t.rest ∧ s.last = t.rest)
def lineF (s : Sg) (k : Int) : Fr := partF s.first s.last (lowF k s.many)
def lengthF : List Sg → Fr → Int → Fr
  | [], r, _ => r
  | s :: ss, r, k => if k < s.many then partF s.first s.last (lowF (2 * k + 1) (2 * s.many)) else lengthF ss r (k - s.many)
def sumF (s : Sg) (k : Int) : Fr := timesF (plusF s.first (lineF s k)) (lowF k 2)
def minI (a b : Int) : Int := if b < a then b else a
def maxI (a b : Int) : Int := if b > a then b else a
def momGo : List Sg → Int → Fr → Fr × Int
  | [], k, tot => (tot, k)
  | s :: ss, k, tot => momGo ss (maxI 0 (k - s.many)) (plusF tot (sumF s (minI k s.many)))
def momF (t : Tm) (x : Fr) : Fr :=
  let q := momGo t.sts (x.1 / x.2) (timesF (lengthF t.sts t.rest (x.1 / x.2)) (minusF x (x.1 / x.2, 1)))
  plusF q.1 (timesF t.rest (q.2, 1))
/-! ### shapes, pieces, lanes, takes -/
abbrev Cr := Fr × Fr
@[reducible] def crD (c : Cr) : Dt := .tup [frp c.1, frp c.2]
abbrev Sp := List Cr
@[reducible] def spD (s : Sp) : Dt := .tup (s.map crD)
structure Pc where
  n : Int
  take : Str
  at_ : Int
  many : Int
  way : Str
  start : Fr
  speed : Fr
  shape : Sp
@[reducible] def Pc.d (p : Pc) : Dt := .tup [.int p.n, .str p.take, .int p.at_, .int p.many, .str p.way, frp p.start, frp p.speed, spD p.shape]
structure Ln where
  name : Str
  gain : Fr
  silent : Int
  pcs : List Pc
@[reducible] def Ln.d (l : Ln) : Dt := .tup [.str l.name, frp l.gain, .int l.silent, .tup (l.pcs.map Pc.d)]
structure Tk where
  name : Str
  tones : List Int
@[reducible] def Tk.d (t : Tk) : Dt := .tup [.str t.name, .tup (t.tones.map .int)]
structure Sh where
  tm : Tm
  tks : List Tk
  lns : List Ln
@[reducible] def Sh.d (s : Sh) : Dt := .tup [s.tm.d, .tup (s.tks.map Tk.d), .tup (s.lns.map Ln.d)]
/-- the names -/
def isLow (c : Nat) : Bool := decide (97 ≤ c) && decide (c ≤ 122)
structure GN (x : Str) : Prop where
  l1 : 1 ≤ x.length
  l2 : x.length ≤ 8
  low : ∀ c ∈ x.cps.toList, isLow c = true
def straightB (a b c : Cr) : Bool :=
  let rise := (b.2.1 * a.2.2 - a.2.1 * b.2.2, a.2.2 * b.2.2)
  let run := (b.1.1 * a.1.2 - a.1.1 * b.1.2, a.1.2 * b.1.2)
  let more := (c.2.1 * b.2.2 - b.2.1 * c.2.2, b.2.2 * c.2.2)
  let far := (c.1.1 * b.1.2 - b.1.1 * c.1.2, b.1.2 * c.1.2)
  decide (rise.1 * far.1 * run.2 * more.2 = more.1 * run.1 * far.2 * rise.2)
structure GSp (many : Int) (s : Sp) : Prop where
  l1 : 2 ≤ s.length
  l2 : s.length ≤ 12
  cr : ∀ c ∈ s, Gf 32 c.1 ∧ 0 ≤ c.1.1 ∧ Gf 32 c.2 ∧ 0 ≤ c.2.1
  up : ∀ (i : Nat) (a b : Cr), s[i]? = some a → s[i + 1]? = some b → a.1.1 * b.1.2 < b.1.1 * a.1.2
  ben : ∀ (i : Nat) (a b c : Cr), s[i]? = some a → s[i + 1]? = some b → s[i + 2]? = some c → straightB a b c = false
  hd : ∃ y, s[0]? = some ((0, 1), y)
  lst : ∃ y, s[s.length - 1]? = some ((many, 1), y)
structure GPc (p : Pc) : Prop where
  n1 : 1 ≤ p.n
  n2 : p.n ≤ 99999
  tk : GN p.take
  a1 : 0 ≤ p.at_
  a2 : p.at_ ≤ 60
  m1 : 1 ≤ p.many
  m2 : p.many ≤ 16
  way : p.way = "free" ∨ p.way = "bound"
  st : Gf 32 p.start
  st0 : 0 ≤ p.start.1
  sp : Gf 32 p.speed
  sp0 : 0 < p.speed.1
  sh : GSp p.many p.shape
structure GTk (t : Tk) : Prop where
  nm : GN t.name
  l1 : 1 ≤ t.tones.length
  l2 : t.tones.length ≤ 40
  tn : ∀ i ∈ t.tones, -100000 ≤ i ∧ i ≤ 100000
structure GLn (l : Ln) : Prop where
  nm : GN l.name
  g : Gf 32 l.gain
  g0 : 0 ≤ l.gain.1
  s : l.silent = 0 ∨ l.silent = 1
  pc : ∀ p ∈ l.pcs, GPc p
def Sh.all (s : Sh) : List Pc := s.lns.flatMap Ln.pcs
structure GSh (s : Sh) : Prop where
  tm : GTm s.tm
  tk1 : 1 ≤ s.tks.length
  tk2 : s.tks.length ≤ 4
  tks : ∀ t ∈ s.tks, GTk t
  tkn : (s.tks.map Tk.name).Nodup
  l1 : 1 ≤ s.lns.length
  l2 : s.lns.length ≤ 4
  lns : ∀ l ∈ s.lns, GLn l
  lnn : (s.lns.map Ln.name).Nodup
  all : s.all.length ≤ 14
  nn : (s.all.map Pc.n).Nodup
  tkd : ∀ p ∈ s.all, p.take ∈ s.tks.map Tk.name
/-! ### bits -/
theorem bt_pos {n : Nat} {i : Int} (h : Bt n i) : i < 2 ^ n ∧ -(2 ^ n) < i := by
  unfold Bt at h
  have e : ((2 ^ n : Nat) : Int) = 2 ^ n := by push_cast; rfl
  constructor <;> omega
theorem bt_le {n : Nat} {i : Int} (h1 : -(2 ^ n : Nat) < i) (h2 : i < (2 ^ n : Nat)) : Bt n i := bt_of h1 h2
theorem btn {n : Nat} {i : Int} (h1 : i.natAbs < 2 ^ n) : Bt n i := h1
theorem Gf.pos {n : Nat} {x : Fr} (h : Gf n x) : 0 < x.2 := h.fb.ps
theorem as_fb {n : Nat} {i : Int} (h : Bt n i) (hn : 1 ≤ n) : FBp n (i, 1) := ⟨h, (show (1 : Int).natAbs < 2 ^ n from Nat.one_lt_two_pow (by omega)), (by show (0:Int) < 1; decide)⟩
theorem as_fv {i : Int} : Fvp (i, 1) := ⟨by show (0 : Int) < 1; decide, by show gcdI i 1 = 1; unfold gcdI; simp⟩
theorem bt_many {s : Sg} (h : GSg s) : Bt 14 s.many := by
  have := h.m1; have := h.m2
  exact bt_of (by simp; omega) (by simp; omega)
theorem growF_ok {s : Sg} (h : GSg s) : FBp 65 (minusF s.last s.first) ∧ FBp 14 (s.many, 1) ∧ FBp 79 (growF s) := by
  have a := minusF_fb h.l.fb h.f.fb
  have b : FBp 14 (s.many, 1) := as_fb (bt_many h) (by decide)
  exact ⟨a, b, overF_fb a b (by have := h.m1; show 0 < s.many; omega)⟩
theorem low_fb {n : Nat} {k m : Int} (hk : Bt n k) (hm : Bt n m) (h0 : 0 < m) : FBp n (lowF k m) := lowF_fb h0 hk hm
theorem lineF_fb {s : Sg} {k : Int} (h : GSg s) (hk : Bt 64 k) : FBp 162 (lineF s k) :=
  partF_fb h.f.fb h.l.fb (low_fb hk ((bt_many h).up (by decide)) (by have := h.m1; omega))
theorem sumF_fb {s : Sg} {k : Int} (h : GSg s) (hk : Bt 64 k) : FBp 259 (sumF s k) :=
  timesF_fb (plusF_fb h.f.fb (lineF_fb h hk)) (low_fb hk (show (2 : Int).natAbs < 2 ^ 64 by decide) (by decide))
theorem lengthF_fb : ∀ {ss : List Sg} {r : Fr} {k : Int}, (∀ s ∈ ss, GSg s) → FBp 32 r → 0 ≤ k → Bt 60 k → FBp 162 (lengthF ss r k)
  | [], r, k, _, hr, _, _ => hr.up (by decide)
  | s :: ss, r, k, h, hr, h0, hk => by
    have hs := h s (by simp)
    have := hs.m1; have := hs.m2
    have hp := bt_pos hk
    unfold lengthF
    split
    · have b1 : Bt 64 (2 * k + 1) := bt_of (by simp at hp ⊢; omega) (by simp at hp ⊢; omega)
      have b2 : Bt 64 (2 * s.many) := bt_of (by simp; omega) (by simp; omega)
      exact partF_fb hs.f.fb hs.l.fb (low_fb b1 b2 (by omega))
    · exact lengthF_fb (fun t ht => h t (by simp [ht])) hr (by omega) (hk.of_le (by omega) (by omega))
theorem momGo_fb : ∀ {ss : List Sg} {k : Int} {tot : Fr} {n : Nat}, (∀ s ∈ ss, GSg s) → FBp n tot → 0 ≤ k → Bt 60 k → FBp (n + 260 * ss.length) (momGo ss k tot).1 ∧ 0 ≤ (momGo ss k tot).2 ∧ Bt 60 (momGo ss k tot).2
  | [], k, tot, n, _, ht, h0, hk => ⟨ht.up (by simp), h0, hk⟩
  | s :: ss, k, tot, n, h, ht, h0, hk => by
    have hs := h s (by simp)
    have := hs.m1; have := hs.m2
    unfold momGo
    have e1 : 0 ≤ maxI 0 (k - s.many) ∧ maxI 0 (k - s.many) ≤ k := by unfold maxI; split <;> omega
    have e2 : 0 ≤ minI k s.many ∧ minI k s.many ≤ k := by unfold minI; split <;> omega
    have q := momGo_fb (ss := ss) (fun t ht => h t (by simp [ht])) (plusF_fb ht (sumF_fb (k := minI k s.many) hs ((hk.of_le e2.1 e2.2).up (by decide)))) e1.1 (hk.of_le e1.1 e1.2)
    exact ⟨q.1.up (by simp; omega), q.2⟩
theorem floor_ok {n : Nat} {x : Fr} (h : FBp n x) (h0 : 0 ≤ x.1) : 0 ≤ x.1 / x.2 ∧ Bt n (x.1 / x.2) := by
  have a := Int.ediv_nonneg h0 (Int.le_of_lt h.ps)
  exact ⟨a, h.tp.of_le a (Int.ediv_le_self _ h0)⟩
theorem momF_fb {t : Tm} {x : Fr} (h : GTm t) (hx : FBp 40 x) (h0 : 0 ≤ x.1) : FBp 2000 (momF t x) := by
  have f := floor_ok hx h0
  have a := lengthF_fb (k := x.1 / x.2) h.sg h.r.fb f.1 (f.2.up (by decide))
  have b := minusF_fb hx (as_fb f.2 (by decide))
  have c := momGo_fb (tot := timesF (lengthF t.sts t.rest (x.1 / x.2)) (minusF x (x.1 / x.2, 1))) h.sg (timesF_fb a b) f.1 (f.2.up (by decide))
  have d := plusF_fb c.1 (timesF_fb h.r.fb (as_fb c.2.2 (by decide)))
  exact d.up (by have := h.len; omega)
end BL
set_option maxHeartbeats 4000000
/-! Foundation, part 8: comprehensions in pure places, loops over mapped lists -/
namespace BL
open PySem PySem.Spec PyProof.Rows L2 Evl

section
variable {T : Tb} {X : Cx} {ρ : Rho} {M : Mem} {d : Dt} {e : Expr}
theorem ev (i : Nat) {x : Str} {pos : Pos} (hs : ρ[i]? = some (some d) := by rfl) (hN : X.N[i]? = some x := by rfl) (hv : Vis X.env.scope x := by first | exact Or.inl rfl | exact Or.inr (Or.inl rfl) | exact Or.inr (Or.inr rfl)) (hd : (x == ("__debug__" : Str)) = false := by decide)
    (hcd : (x == ("__classdict__" : Str)) = false := by decide) : ED T X (.Name x pos) ρ d := ed_var hs hN hv hd hcd
theorem ed_of_we {D : Dt} (h : WE T X e ρ [] fun d M' => d = D ∧ M' = []) : ED T X e ρ D := fun F H σ Q f s k =>
  h F H σ Q f s MemOk.nil fun v d M' F' H' ⟨e1, e2⟩ q r => by
    subst e1 e2
    exact k v F' H' q.fine q.stp r
/-! what is agreed on -/
def Agr : Rho → Rho → Prop
  | [], [] => True
  | none :: r, _ :: r' => Agr r r'
  | some d :: r, y :: r' => y = some d ∧ Agr r r'
  | _, _ => False
theorem Agr.len : ∀ {ρ ρ' : Rho}, Agr ρ ρ' → ρ'.length = ρ.length
  | [], [], _ => rfl
  | none :: r, _ :: r', h => by simpa using Agr.len (ρ := r) (ρ' := r') h
  | some d :: r, y :: r', h => by simpa using Agr.len (ρ := r) (ρ' := r') h.2
  | [], _ :: _, h => h.elim
  | none :: _, [], h => h.elim
  | some _ :: _, [], h => h.elim
theorem Agr.at_ : ∀ {ρ ρ' : Rho}, Agr ρ ρ' → ∀ (i : Nat) (d : Dt), ρ[i]? = some (some d) → ρ'[i]? = some (some d)
  | none :: r, _ :: r', h, i, d, e => by
    cases i with
    | zero => simp at e
    | succ i => exact Agr.at_ (ρ := r) (ρ' := r') h i d (by simpa using e)
  | some d0 :: r, y :: r', h, i, d, e => by
    cases i with
    | zero => rw [h.1]; simpa using e
    | succ i => exact Agr.at_ (ρ := r) (ρ' := r') h.2 i d (by simpa using e)
  | [], _, _, i, d, e => by simp at e
  | none :: _, [], h, _, _, _ => h.elim
  | some _ :: _, [], h, _, _, _ => h.elim
theorem Agr.refl : ∀ {ρ : Rho}, Agr ρ ρ
  | [] => trivial
  | none :: r => Agr.refl (ρ := r)
  | some d :: r => ⟨rfl, Agr.refl (ρ := r)⟩
theorem Agr.slots {K : PySem.W.Frag} {F : Hp} {σ : L2.St} {ρ' : Rho} (a : Agr ρ ρ') (s : Slots K F σ ρ') : Slots K F σ ρ := s.weak a.len.symm a.at_
theorem ws_weak {sts : List Stmt} {E : DE} {ρ' : Rho} (h : WS T X sts ρ M E) (a : Agr ρ ρ') : WS T X sts ρ' M E := fun F H σ D f s m k => h F H σ D f (a.slots s) m k
theorem ws_agr {sts : List Stmt} {E : DE} (h : WS T X sts ρ M { E with nx := fun ρ' M' => ∃ R, Agr R ρ' ∧ E.nx R M', ct := fun ρ' M' => ∃ R, Agr R ρ' ∧ E.ct R M' }) : WS T X sts ρ M E := fun F H σ D f s m k =>
  h F H σ D f s m ⟨fun σ' ρ' M' F' H' ⟨R, a, p⟩ q s' => k.nx σ' R M' F' H' p q (a.slots s'), k.rt, k.bk, fun σ' ρ' M' F' H' ⟨R, a, p⟩ q s' => k.ct σ' R M' F' H' p q (a.slots s')⟩
end

section
variable {T : Tb} {X : Cx} {ρ : Rho} {M : Mem} {tg iter : Expr} {body rest : List Stmt} {pos : Pos} {st : Rho → Dt → Option Rho} {E : DE}
theorem ws_for {α : Type} {xs : List α} {f : α → Dt} (R : Nat → Rho) (Mm : Nat → Mem → Prop) (hc : X.calm = true) (ht : TgOk X tg st) (h0 : Agr (R 0) ρ) (hi : IW T X tg iter (R 0) M fun ds M' => ds = xs.map f ∧ Mm 0 M')
    (hb : ∀ i a M', xs[i]? = some a → Mm i M' → ∃ ρ'', st (R i) (f a) = some ρ'' ∧ WS T X body ρ'' M' { nx := fun ρ' M' => Agr (R (i + 1)) ρ' ∧ Mm (i + 1) M', ct := fun ρ' M' => Agr (R (i + 1)) ρ' ∧ Mm (i + 1) M', bk := fun ρ' M' => WS T X rest ρ' M' E, rt := E.rt })
    (hd : ∀ M', Mm xs.length M' → WS T X rest (R xs.length) M' E) (hp : PassesOwn (model X.prog X.w) X.A X.env X.xe := by exact PassesOwn.never) (hs : ∀ x, foldedSetIterable iter X.env x = pure x := by intro _; rfl) : WS T X (.For tg iter body [] pos :: rest) ρ M E := by
  refine ws_weak (ρ := R 0) (ws_cons (w1_for hp hc ht hi ?_ hs)) h0
  rintro ds M1 ⟨rfl, m0⟩
  refine ⟨fun i ρ' M' => ρ' = R i ∧ Mm i M', ⟨rfl, m0⟩, ?_, ?_⟩
  · rintro i d ρ' M' hd' ⟨rfl, mi⟩
    rw [List.getElem?_map] at hd'
    cases ha : xs[i]? with
    | none => rw [ha] at hd'; cases hd'
    | some a =>
      rw [ha] at hd'
      cases hd'
      obtain ⟨ρ'', e, w⟩ := hb i a M' ha mi
      refine ⟨ρ'', e, ws_agr ?_⟩
      intro F H σ D f s m k
      exact w F H σ D f s m ⟨fun σ' ρ' M' F' H' ⟨a', p⟩ q s' => k.nx σ' ρ' M' F' H' ⟨R (i + 1), a', rfl, p⟩ q s', k.rt, fun σ' ρ' M' F' H' p q s' => k.bk σ' ρ' M' F' H' p q s', fun σ' ρ' M' F' H' ⟨a', p⟩ q s' => k.ct σ' ρ' M' F' H' ⟨R (i + 1), a', rfl, p⟩ q s'⟩
  · rintro ρ' M' ⟨rfl, mi⟩
    rw [List.length_map] at mi
    have := hd M' mi
    rw [List.length_map]
    exact this
theorem find_at {α : Type} {p : α → Bool} : ∀ {xs : List α} {i : Nat} {a : α}, (∀ b ∈ xs.take i, p b = false) → xs[i]? = some a → p a = true → xs.find? p = some a
  | [], i, a, _, h, _ => by simp at h
  | x :: xs, 0, a, _, h, q => by
    have e : x = a := by simpa using h
    subst e
    simp [q]
  | x :: xs, i + 1, a, hb, h, q => by
    have hx : p x = false := hb x (by simp)
    rw [List.find?_cons, hx]
    exact find_at (i := i) (fun b hb' => hb b (by rw [List.take_succ_cons]; exact List.mem_cons_of_mem _ hb')) (by simpa using h) q
/-- for .. if ..: return: the first that fits -/
theorem ws_find {α : Type} {xs : List α} {f : α → Dt} {p : α → Bool} {c : Expr} {ret : List Stmt} {pi_ : Pos} (R : Rho) (hc : X.calm = true) (ht : TgOk X tg st) (h0 : Agr R ρ) (hi : IW T X tg iter R M fun ds M' => ds = xs.map f ∧ M' = M)
    (hb : ∀ a ∈ xs, ∃ ρ'', st R (f a) = some ρ'' ∧ Agr R ρ'' ∧ TD T X c ρ'' (p a) ∧ (xs.find? p = some a → ∀ nx bk ct, WS T X ret ρ'' M ⟨nx, E.rt, bk, ct⟩))
    (hd : xs.find? p = none → WS T X rest R M E) (hp : PassesOwn (model X.prog X.w) X.A X.env X.xe := by exact PassesOwn.never) (hs : ∀ x, foldedSetIterable iter X.env x = pure x := by intro _; rfl) : WS T X (.For tg iter [.If c ret [] pi_] [] pos :: rest) ρ M E := by
  refine ws_for (xs := xs) (f := f) (fun _ => R) (fun i M' => M' = M ∧ ∀ b ∈ xs.take i, p b = false) hc ht h0 ?_ ?_ ?_ hp hs
  · intro F H σ Q f s m k
    refine hi F H σ Q f s m fun J ds M1 F1 H1 ⟨e1, e2⟩ => k J ds M1 F1 H1 ⟨e1, e2, by simp⟩
  · rintro i a M' ha ⟨rfl, hf⟩
    have hm : a ∈ xs := List.mem_of_getElem? ha
    obtain ⟨ρ'', e, ag, t, w⟩ := hb a hm
    refine ⟨ρ'', e, ws_one (w1_ifp t (fun h => w (find_at hf ha h) _ _ _) fun h => ws_nil ⟨ag, rfl, fun b hb' => ?_⟩)⟩
    rw [List.take_add_one, List.mem_append] at hb'
    rcases hb' with hb' | hb'
    · exact hf b hb'
    · rw [ha] at hb'
      have e : b = a := by simpa using hb'
      rw [e]; exact h
  · rintro M' ⟨rfl, hf⟩
    rw [List.take_length] at hf
    exact hd (List.find?_eq_none.mpr fun b hb' => by simp [hf b hb'])
end

/-! ### comprehensions in pure places -/
section
variable {T : Tb} {X : Cx} {iter elt c : Expr} {ρ : Rho} {M : Mem} {scope : Scope} {pos : Pos} {x : Str} {j : Nat} {px : Pos}
theorem IW.mono {tg : Expr} {Ψ Ψ' : List Dt → Mem → Prop} (h : IW T X tg iter ρ M Ψ) (k : ∀ ds M', Ψ ds M' → Ψ' ds M') : IW T X tg iter ρ M Ψ' := fun F H σ Q f s m q => h F H σ Q f s m fun J d M' F' H' p => q J d M' F' H' (k d M' p)
theorem getD_map {α : Type} {xs : List α} {f : α → Dt} {g : α → Dt} {i : Nat} {d : Dt} (h : (xs.map f)[i]? = some d) : ∃ a, xs[i]? = some a ∧ d = f a := by
  rw [List.getElem?_map] at h
  cases e : xs[i]? with
  | none => rw [e] at h; cases h
  | some a => rw [e] at h; cases h; exact ⟨a, rfl, rfl⟩
/-- one list of items, some left out -/
theorem lcturn_m {α : Type} {xs : List α} {f g : α → Dt} {b : α → Bool} {ifs : List Expr} {Φ : Dt → Mem → Prop} {M1 : Mem} (hl : xs.length ≤ 100000) (ht : ∀ a ∈ xs, ∀ B, Blk X scope B → WTs T B ifs ((ρ.set j none).set j (some (f a))) M1 (fun t M2 => t = b a ∧ M2 = M1))
    (he : ∀ a ∈ xs, b a = true → ∀ B, Blk X scope B → ED T B elt ((ρ.set j none).set j (some (f a))) (g a)) (hk : Φ (.lst ((xs.filter b).map g)) M1) : LcTurn T X scope elt ifs ρ j Φ (xs.map f) M1 := by
  have e0 : ∀ n, ((List.range n).filter fun i => (xs[i]?.map b).getD false).map (fun i => (xs[i]?.map g).getD .non) = ((xs.take n).filter b).map g := by
    intro n
    induction n with
    | zero => simp
    | succ n ih =>
      rw [List.range_succ, List.filter_append, List.map_append, ih, List.take_add_one, List.filter_append, List.map_append]
      congr 1
      cases h : xs[n]? with
      | none => simp [h]
      | some a => by_cases hb : b a = true <;> simp [h, hb]
  refine lcturn_p (b := fun i => (xs[i]?.map b).getD false) (g := fun i => (xs[i]?.map g).getD .non) (by rw [List.length_map]; exact hl) (fun i d hd B hB => ?_) (fun i d hd hb B hB => ?_) ?_
  · obtain ⟨a, h1, rfl⟩ := getD_map (g := g) hd
    have := ht a (List.mem_of_getElem? h1) B hB
    rw [h1]
    exact this
  · obtain ⟨a, h1, rfl⟩ := getD_map (g := g) hd
    rw [h1] at hb ⊢
    exact he a (List.mem_of_getElem? h1) hb B hB
  · rw [List.length_map, e0, List.take_length]
    exact hk
abbrev PGB (X : Cx) (scope : Scope) (x : Str) (px : Pos) (j : Nat) : Prop := ∀ B, Blk X scope B → PG B (.Name x px) (gName j)
/-- [e for x in xs] in a pure place -/
theorem ed_lc0 {α : Type} {xs : List α} {f g : α → Dt} (hi : IW T X (.Name x px) iter ρ [] fun ds M' => ds = xs.map f ∧ M' = []) (hc : X.calm = true) (hN : X.N.Nodup) (ok : BlkOk X.N X.env.scope scope [(x, j)]) (hg : PGB X scope x px j) (hl : xs.length ≤ 100000)
    (he : ∀ a ∈ xs, ∀ s H C cl fp, ED T (X.blk s H scope (compEnvC scope cl C X.env) fp) elt ((ρ.set j none).set j (some (f a))) (g a)) (hs : ∀ x, foldedSetIterable iter X.env x = pure x := by intro _; rfl) : ED T X (.ListComp elt [⟨.Name x px, iter, [], 0⟩] scope pos) ρ (.lst (xs.map g)) :=
  ed_of_we (we_lc hc hN hi ok hg (fun ds M1 ⟨e1, e2⟩ => by
    subst e1 e2
    refine lcturn_m (g := g) (b := fun _ => true) hl (fun a ha B hB => wts_nil ⟨rfl, rfl⟩) (fun a ha _ B hB => ?_) ?_
    · obtain ⟨s, H, C, cl, fp, rfl⟩ := hB.is_
      exact he a ha s H C cl fp
    · rw [List.filter_eq_self.mpr (by simp)]
      exact ⟨rfl, rfl⟩) hs)
theorem ed_lc1 {α : Type} {xs : List α} {f g : α → Dt} {b : α → Bool} (hi : IW T X (.Name x px) iter ρ [] fun ds M' => ds = xs.map f ∧ M' = []) (hc : X.calm = true) (hN : X.N.Nodup) (ok : BlkOk X.N X.env.scope scope [(x, j)]) (hg : PGB X scope x px j) (hl : xs.length ≤ 100000)
    (ht : ∀ a ∈ xs, ∀ s H C cl fp, TD T (X.blk s H scope (compEnvC scope cl C X.env) fp) c ((ρ.set j none).set j (some (f a))) (b a))
    (he : ∀ a ∈ xs, b a = true → ∀ s H C cl fp, ED T (X.blk s H scope (compEnvC scope cl C X.env) fp) elt ((ρ.set j none).set j (some (f a))) (g a)) (hs : ∀ x, foldedSetIterable iter X.env x = pure x := by intro _; rfl) : ED T X (.ListComp elt [⟨.Name x px, iter, [c], 0⟩] scope pos) ρ (.lst ((xs.filter b).map g)) :=
  ed_of_we (we_lc hc hN hi ok hg (fun ds M1 ⟨e1, e2⟩ => by
    subst e1 e2
    refine lcturn_m (g := g) (b := b) hl (fun a ha B hB => wts_one ?_) (fun a ha hb B hB => ?_) ⟨rfl, rfl⟩
    · obtain ⟨s, H, C, cl, fp, rfl⟩ := hB.is_
      exact wt_p (ht a ha s H C cl fp) ⟨rfl, rfl⟩
    · obtain ⟨s, H, C, cl, fp, rfl⟩ := hB.is_
      exact he a ha hb s H C cl fp) hs)
/-- name = [e for x in xs if c] stored by the comprehension -/
theorem w1_lc0 {α : Type} {xs : List α} {f g : α → Dt} {E : DE} {ix : Nat} {y : Str} {py spos : Pos} (hi : IW T X (.Name x px) iter ρ M fun ds M' => ds = xs.map f ∧ M' = M) (hc : X.calm = true) (hN : X.N.Nodup) (ok : BlkOk X.N X.env.scope scope [(x, j)]) (hg : PGB X scope x px j) (hl : xs.length ≤ 100000)
    (he : ∀ a ∈ xs, ∀ s H C cl fp, ED T (X.blk s H scope (compEnvC scope cl C X.env) fp) elt ((ρ.set j none).set j (some (f a))) (g a)) (k : E.nx (ρ.set ix (some (.lst (xs.map g)))) M) (hy : X.N[ix]? = some y) (hyl : X.env.scope.names.lookup y = some .local)
    (hsw : swapsWith (.ListComp elt [⟨.Name x px, iter, [], 0⟩] scope pos) (some (.Name y py)) spos.line X.env = pure true := by rfl)
    (hs : ∀ x, foldedSetIterable iter X.env x = pure x := by intro _; rfl) : W1 T X (.Assign [.Name y py] (.ListComp elt [⟨.Name x px, iter, [], 0⟩] scope pos) spos) ρ M E :=
  w1_setLc hc hN hi ok hg (fun ds M1 ⟨e1, e2⟩ => by
    subst e1 e2
    refine lcturn_m (g := g) (b := fun _ => true) hl (fun a ha B hB => wts_nil ⟨rfl, rfl⟩) (fun a ha _ B hB => ?_) ?_
    · obtain ⟨s, H, C, cl, fp, rfl⟩ := hB.is_
      exact he a ha s H C cl fp
    · rw [List.filter_eq_self.mpr (by simp)]
      exact k) hy hyl hsw hs
theorem w1_lc1 {α : Type} {xs : List α} {f g : α → Dt} {b : α → Bool} {E : DE} {ix : Nat} {y : Str} {py spos : Pos} (hi : IW T X (.Name x px) iter ρ M fun ds M' => ds = xs.map f ∧ M' = M) (hc : X.calm = true) (hN : X.N.Nodup) (ok : BlkOk X.N X.env.scope scope [(x, j)]) (hg : PGB X scope x px j) (hl : xs.length ≤ 100000)
    (ht : ∀ a ∈ xs, ∀ s H C cl fp, TD T (X.blk s H scope (compEnvC scope cl C X.env) fp) c ((ρ.set j none).set j (some (f a))) (b a))
    (he : ∀ a ∈ xs, b a = true → ∀ s H C cl fp, ED T (X.blk s H scope (compEnvC scope cl C X.env) fp) elt ((ρ.set j none).set j (some (f a))) (g a)) (k : E.nx (ρ.set ix (some (.lst ((xs.filter b).map g)))) M) (hy : X.N[ix]? = some y) (hyl : X.env.scope.names.lookup y = some .local)
    (hsw : swapsWith (.ListComp elt [⟨.Name x px, iter, [c], 0⟩] scope pos) (some (.Name y py)) spos.line X.env = pure true := by rfl)
    (hs : ∀ x, foldedSetIterable iter X.env x = pure x := by intro _; rfl) : W1 T X (.Assign [.Name y py] (.ListComp elt [⟨.Name x px, iter, [c], 0⟩] scope pos) spos) ρ M E :=
  w1_setLc hc hN hi ok hg (fun ds M1 ⟨e1, e2⟩ => by
    subst e1 e2
    refine lcturn_m (g := g) (b := b) hl (fun a ha B hB => wts_one ?_) (fun a ha hb B hB => ?_) k
    · obtain ⟨s, H, C, cl, fp, rfl⟩ := hB.is_
      exact wt_p (ht a ha s H C cl fp) ⟨rfl, rfl⟩
    · obtain ⟨s, H, C, cl, fp, rfl⟩ := hB.is_
      exact he a ha hb s H C cl fp) hy hyl hsw hs
/-- all(..) of what is true, any(..) of what is false -/
theorem ed_allT {p : Pos} {lcp : Pos} {ns : Nat} (hm : X.mg "all" = none) (hc : X.calm = true) (h : ED T X e ρ (.lst ((List.replicate ns ()).map fun _ => Dt.bl true))) (hg : Gl X "all" := by rfl)
    (he : starEach [e] X.env = (false, eval e X.env) :: starEach [] X.env := by exact st_any rfl) : ED T X (.Call (.Name "all" p) [e] [] pos) ρ (.bl true) := by
  have h' : ED T X e ρ (.lst ((List.replicate ns true).map .bl)) := h.is (by simp)
  have q := ed_b (pos := pos) (p := p) (bd_all (bs := List.replicate ns true) hm hc) hg (ad_cons h' ad_nil he) (by decide) (by decide) he (by rfl)
  exact q.is (by simp)
theorem map_const {α : Type} {xs : List α} {g : α → Dt} {d : Dt} (h : ∀ a ∈ xs, g a = d) : xs.map g = (List.replicate xs.length ()).map fun _ => d := by
  rw [List.map_replicate]
  refine List.ext_getElem (by simp) fun i h1 h2 => ?_
  simp only [List.getElem_map, List.getElem_replicate]
  exact h _ (List.getElem_mem _)
theorem ed_all0 {α : Type} {xs : List α} {f : α → Dt} {p : Pos} (hm : X.mg "all" = none) (hi : IW T X (.Name x px) iter ρ [] fun ds M' => ds = xs.map f ∧ M' = []) (hc : X.calm = true) (hN : X.N.Nodup) (ok : BlkOk X.N X.env.scope scope [(x, j)]) (hg : PGB X scope x px j) (hl : xs.length ≤ 100000)
    (he : ∀ a ∈ xs, ∀ s H C cl fp, ED T (X.blk s H scope (compEnvC scope cl C X.env) fp) elt ((ρ.set j none).set j (some (f a))) (.bl true)) (hs : ∀ x, foldedSetIterable iter X.env x = pure x := by intro _; rfl) {p2 : Pos} (hG : Gl X "all" := by rfl)
    (hst : starEach [.ListComp elt [⟨.Name x px, iter, [], 0⟩] scope pos] X.env = (false, eval (.ListComp elt [⟨.Name x px, iter, [], 0⟩] scope pos) X.env) :: starEach [] X.env := by rfl) : ED T X (.Call (.Name "all" p) [.ListComp elt [⟨.Name x px, iter, [], 0⟩] scope pos] [] p2) ρ (.bl true) :=
  ed_allT (lcp := pos) (ns := xs.length) hm hc ((ed_lc0 (g := fun _ => .bl true) hi hc hN ok hg hl he hs).is (by rw [map_const (d := Dt.bl true) (fun _ _ => rfl)])) hG hst
theorem ed_any0 {α : Type} {xs : List α} {f : α → Dt} {p : Pos} (hm : X.mg "any" = none) (hi : IW T X (.Name x px) iter ρ [] fun ds M' => ds = xs.map f ∧ M' = []) (hc : X.calm = true) (hN : X.N.Nodup) (ok : BlkOk X.N X.env.scope scope [(x, j)]) (hg : PGB X scope x px j) (hl : xs.length ≤ 100000)
    (he : ∀ a ∈ xs, ∀ s H C cl fp, ED T (X.blk s H scope (compEnvC scope cl C X.env) fp) elt ((ρ.set j none).set j (some (f a))) (.bl false)) (hs : ∀ x, foldedSetIterable iter X.env x = pure x := by intro _; rfl) {p2 : Pos} (hG : Gl X "any" := by rfl)
    (hst : starEach [.ListComp elt [⟨.Name x px, iter, [], 0⟩] scope pos] X.env = (false, eval (.ListComp elt [⟨.Name x px, iter, [], 0⟩] scope pos) X.env) :: starEach [] X.env := by rfl) : ED T X (.Call (.Name "any" p) [.ListComp elt [⟨.Name x px, iter, [], 0⟩] scope pos] [] p2) ρ (.bl false) := by
  have h := (ed_lc0 (pos := pos) (g := fun _ => .bl false) hi hc hN ok hg hl he hs)
  have h' : ED T X (.ListComp elt [⟨.Name x px, iter, [], 0⟩] scope pos) ρ (.lst ((List.replicate xs.length false).map .bl)) := h.is (by rw [map_const (d := Dt.bl false) (fun _ _ => rfl)]; simp)
  have q := ed_b (pos := p2) (p := p) (bd_any (bs := List.replicate xs.length false) hm hc) hG (ad_cons h' ad_nil hst) (by decide) (by decide) hst (by rfl)
  exact q.is (by simp)
theorem pgB (hN : X.N.Nodup) (hi : X.N[j]? = some x) (hx : scope.names.lookup x = some .local) : PGB X scope x px j := fun B hB => by
  obtain ⟨s, H, C, cl, fp, rfl⟩ := hB.is_
  have hx' : (compEnvC scope cl C X.env).scope.names.lookup x = some .local := lookup_relabel_local hx
  exact pg_name hN hi (.inl hx') (.inr hx')
end

/-! ### data: equality, places -/
theorem eqD_dec {d e : Dt} {P : Prop} [Decidable P] (h : d = e ↔ P) : eqD d e = decide P := by
  by_cases q : P
  · rw [eqD_t (h.mpr q), decide_eq_true q]
  · rw [eqD_f (fun z => q (h.mp z)), decide_eq_false q]
theorem frp_inj {x y : Fr} : frp x = frp y ↔ x = y := by
  obtain ⟨a, b⟩ := x
  obtain ⟨c, d⟩ := y
  simp [frp, fr]
theorem eqD_fr {x y : Fr} : eqD (frp x) (frp y) = decide (x = y) := eqD_dec frp_inj
theorem cln_fr {n : Nat} {a b : Int} : Cln (n + 1) (fr a b) := fun d hd => by
  simp only [List.mem_cons, List.not_mem_nil, or_false] at hd
  rcases hd with rfl | rfl <;> cases n <;> trivial
theorem cln_int {n : Nat} {a : Int} : Cln n (.int a) := by cases n <;> trivial
theorem cln_non {n : Nat} : Cln n .non := by cases n <;> trivial
theorem cln_map {α : Type} {n : Nat} {xs : List α} {f : α → Dt} (h : ∀ a ∈ xs, Cln n (f a)) : Cln (n + 1) (.tup (xs.map f)) := fun d hd => by
  obtain ⟨a, ha, rfl⟩ := List.mem_map.mp hd
  exact h a ha
theorem cln_mapL {α : Type} {n : Nat} {xs : List α} {f : α → Dt} (h : ∀ a ∈ xs, Cln n (f a)) : Cln (n + 1) (.lst (xs.map f)) := fun d hd => by
  obtain ⟨a, ha, rfl⟩ := List.mem_map.mp hd
  exact h a ha
theorem cln_nil {n : Nat} : Cln (n + 1) (.tup []) := fun d hd => by simp at hd
theorem cln_cons {n : Nat} {d : Dt} {ds : List Dt} (h : Cln n d) (hs : Cln (n + 1) (.tup ds)) : Cln (n + 1) (.tup (d :: ds)) := fun x hx => by
  rcases List.mem_cons.mp hx with rfl | hx
  · exact h
  · exact hs x hx
theorem atI_nn {α : Type} {ds : List α} {i : Int} {j : Nat} {d : α} (hi : i = j) (h : ds[j]? = some d) : atI ds i = some d := by
  have hj : j < ds.length := (List.getElem?_eq_some_iff.mp h).1
  unfold atI ixN
  subst hi
  rw [if_pos (by omega), if_pos (by omega)]
  simpa using h
theorem atI_map {α : Type} {f : α → Dt} {ss : List α} {i : Int} {j : Nat} {a : α} (hi : i = j) (h : ss[j]? = some a) : atI (ss.map f) i = some (f a) := atI_nn hi (by rw [List.getElem?_map, h]; rfl)
theorem atI_last {α : Type} {f : α → Dt} {ss : List α} {a : α} (h : ss[ss.length - 1]? = some a) : atI (ss.map f) (-1) = some (f a) := by
  have hj : ss.length - 1 < ss.length := (List.getElem?_eq_some_iff.mp h).1
  unfold atI ixN
  rw [if_neg (by decide), List.length_map, if_pos (by omega)]
  have e : (-1 + (ss.length : Int)).toNat = ss.length - 1 := by omega
  show (ss.map f)[(-1 + (ss.length : Int)).toNat]? = _
  rw [e, List.getElem?_map, h]
  rfl
section
variable {T : Tb} {X : Cx} {ρ : Rho} {a b : Expr} {da db : Dt} {pos : Pos}
theorem ed_eqD (ha : ED T X a ρ da) (hb : ED T X b ρ db) (h : Cln 12 da) (k : Cln 12 db) (hu : X.A.units + 64 < cLine) : ED T X (.Compare a [.Eq] [b] pos) ρ (.bl (eqD da db)) := ed_k (kd_eqD h k hu) ha hb
theorem ed_neD (ha : ED T X a ρ da) (hb : ED T X b ρ db) (h : Cln 12 da) (k : Cln 12 db) (hu : X.A.units + 64 < cLine) : ED T X (.Compare a [.NotEq] [b] pos) ρ (.bl (!eqD da db)) := ed_k (kd_neD h k hu) ha hb
theorem td_eqD (ha : ED T X a ρ da) (hb : ED T X b ρ db) (h : Cln 12 da) (k : Cln 12 db) (hu : X.A.units + 64 < cLine) : TD T X (.Compare a [.Eq] [b] pos) ρ (eqD da db) := td_k (kd_eqD h k hu) ha hb
theorem td_neD (ha : ED T X a ρ da) (hb : ED T X b ρ db) (h : Cln 12 da) (k : Cln 12 db) (hu : X.A.units + 64 < cLine) : TD T X (.Compare a [.NotEq] [b] pos) ρ (!eqD da db) := td_k (kd_neD h k hu) ha hb
end
/-- targets of several names -/
theorem tgc {X : Cx} {i : Nat} {is : List Nat} {x : Str} {p : Pos} {es : List Expr} (t : Tg X es is) (hN : X.N.Nodup) (hi : X.N[i]? = some x := by rfl) (hx : Loc X.env.scope x := by first | exact .inl rfl | exact .inr rfl) (hf : X.fn x = true ∨ X.env.scope.names.lookup x = some .local := by first | exact .inl rfl | exact .inr rfl)
    (hs : (assignEach (.Name x p :: es) X.env).map (·.2) = assign (.Name x p) X.env :: (assignEach es X.env).map (·.2) := by rfl) : Tg X (.Name x p :: es) (i :: is) := .cons hN hi hx hf hs t
end BL
set_option maxHeartbeats 4000000
/-! plain data: rows, looks into a sheet, sheets put otherwise -/
namespace BL
open PySem PySem.Spec PyProof.Rows L2 Evl
structure Rw where
  k : Int
  j : Int
  p : Pc
@[reducible] def Rw.d (r : Rw) : Dt := .tup [.int r.k, .int r.j, r.p.d]
def rowsL (k : Int) (ps : List Pc) : List Rw := ps.zipIdx.map fun q => ⟨k, (q.2 : Int), q.1⟩
def rowsOf (ls : List Ln) : List Rw := ls.zipIdx.flatMap fun q => rowsL (q.2 : Int) q.1.pcs
theorem rowsL_p {k : Int} {ps : List Pc} : (rowsL k ps).map Rw.p = ps := by
  unfold rowsL
  rw [List.map_map]
  show ps.zipIdx.map (fun q => q.1) = ps
  exact List.zipIdx_map_fst 0 ps
theorem flat_zip {α β : Type} (f : α → List β) : ∀ (xs : List α) (n : Nat), (xs.zipIdx n).flatMap (fun q => f q.1) = xs.flatMap f
  | [], _ => rfl
  | x :: xs, n => by
    rw [List.zipIdx_cons, List.flatMap_cons, List.flatMap_cons, flat_zip f xs]
theorem rowsOf_p {ls : List Ln} : (rowsOf ls).map Rw.p = ls.flatMap Ln.pcs := by
  unfold rowsOf
  rw [List.map_flatMap]
  have e : (fun a : Ln × Nat => (rowsL (a.2 : Int) a.1.pcs).map Rw.p) = fun a => a.1.pcs := funext fun a => rowsL_p
  rw [e]
  exact flat_zip Ln.pcs ls 0
theorem rowsOf_take {ls : List Ln} {i : Nat} {l : Ln} (h : ls[i]? = some l) : rowsOf (ls.take (i + 1)) = rowsOf (ls.take i) ++ rowsL (i : Int) l.pcs := by
  have hl : i < ls.length := (List.getElem?_eq_some_iff.mp h).1
  unfold rowsOf
  rw [List.take_add_one, h]
  show (ls.take i ++ [l]).zipIdx.flatMap _ = _
  rw [List.zipIdx_append, List.flatMap_append]
  congr 1
  rw [List.length_take, Nat.min_eq_left (Nat.le_of_lt hl)]
  simp [List.zipIdx_cons]
/-- the items of a row's list, one by one -/
theorem rowsL_range {k : Int} {ps : List Pc} : (rowsL k ps).map Rw.d = (List.range ps.length).map fun j => match ps[j]? with
    | some p => .tup [.int k, .int (j : Int), p.d]
    | none => .non := by
  refine List.ext_getElem? fun i => ?_
  unfold rowsL
  rw [List.map_map, List.getElem?_map, List.getElem?_map, List.getElem?_zipIdx]
  by_cases h : i < ps.length
  · rw [List.getElem?_range h, List.getElem?_eq_getElem h]
    simp [Function.comp, Rw.d, h]
  · rw [List.getElem?_eq_none (by simpa using h), List.getElem?_eq_none (by simpa using h)]
    simp
/-! ### looks -/
def lnBy (s : Sh) (nm : Str) : Option Ln := s.lns.find? fun l => decide (l.name = nm)
def tkBy (s : Sh) (nm : Str) : Option Tk := s.tks.find? fun t => decide (t.name = nm)
def pcBy (s : Sh) (n : Int) : Option Pc := s.all.find? fun p => decide (p.n = n)
def lnOf (s : Sh) (n : Int) : Option Ln := s.lns.find? fun l => decide (n ∈ l.pcs.map Pc.n)
theorem find_rows {s : Sh} {n : Int} {r : Rw} {q : Rw → Bool} (hq : ∀ r, q r = decide (r.p.n = n)) (h : (rowsOf s.lns).find? q = some r) : pcBy s n = some r.p := by
  unfold pcBy Sh.all
  rw [← rowsOf_p, List.find?_map]
  have e : (fun p : Pc => decide (p.n = n)) ∘ Rw.p = q := funext fun r => (hq r).symm
  rw [e, h]
  rfl
theorem find_rows0 {s : Sh} {n : Int} {q : Rw → Bool} (hq : ∀ r, q r = decide (r.p.n = n)) (h : (rowsOf s.lns).find? q = none) : pcBy s n = none := by
  unfold pcBy Sh.all
  rw [← rowsOf_p, List.find?_map]
  have e : (fun p : Pc => decide (p.n = n)) ∘ Rw.p = q := funext fun r => (hq r).symm
  rw [e, h]
  rfl
/-! ### sheets put otherwise -/
def Sh.setLn (s : Sh) (l : Ln) : Sh := { s with lns := s.lns.map fun o => if o.name = l.name then l else o }
def Ln.setPcs (l : Ln) (ps : List Pc) : Ln := { l with pcs := ps }
end BL
set_option maxHeartbeats 4000000
/-! Foundation, part 9: a lambda of one parameter handed to first_where -/
namespace BL
open PySem PySem.Spec PyProof.Rows L2 Evl LamX

/-- one parameter, else captured names and globals -/
structure LamS1 (sc scope : Scope) (y0 : Str) : Prop where
  kind : scope.kind = .function
  co : scope.isCoroutine = false
  gen : scope.isGenerator = false
  par : scope.names.lookup y0 = some .local
  own : ∀ y ∈ scope.names, y.2 = .local → y.1 = y0
  noc : ∀ y ∈ scope.names, y.2 ≠ .cell
  free : ∀ y ∈ scope.names, y.2 = .free → sc.names.lookup y.1 = some .cell ∨ sc.names.lookup y.1 = some .free
def lamS1B (sc scope : Scope) (y0 : Str) : Bool :=
  decide (scope.kind = .function) && !scope.isCoroutine && !scope.isGenerator && decide (scope.names.lookup y0 = some .local) &&
    scope.names.all fun y => (!decide (y.2 = .local) || decide (y.1 = y0)) && !decide (y.2 = .cell) && (!decide (y.2 = .free) || decide (sc.names.lookup y.1 = some .cell) || decide (sc.names.lookup y.1 = some .free))
theorem lamS1_by {sc scope : Scope} {y0 : Str} (h : lamS1B sc scope y0 = true) : LamS1 sc scope y0 := by
  unfold lamS1B at h
  simp only [Bool.and_eq_true, Bool.or_eq_true, Bool.not_eq_true', decide_eq_true_eq, decide_eq_false_iff_not, List.all_eq_true] at h
  obtain ⟨⟨⟨⟨h1, h2⟩, h3⟩, h5⟩, h4⟩ := h
  refine ⟨h1, h2, h3, h5, fun y hy e => ?_, fun y hy => (h4 y hy).1.2, fun y hy e => ?_⟩
  · rcases (h4 y hy).1.1 with z | z
    · exact absurd e z
    · exact z
  · rcases (h4 y hy).2 with (z | z) | z
    · exact absurd e z
    · exact .inl z
    · exact .inr z
theorem LamS1.has {X : Cx} {scope : Scope} {y0 : Str} (L : LamS1 X.env.scope scope y0) (ok : X.Ok) : ∀ y ∈ scope.names, y.2 = .free → ∃ c, X.env.cells.lookup y.1 = some c := fun y hy e => by
  rcases L.free y hy e with k | k
  · exact ok.has _ (.inl k)
  · exact ok.has _ (.inr k)
/-- the context of the lambda's body -/
def lamCx1 (X : Cx) (A : Around) (outer : List Env) (s : Shared) (H : Hp) (scope : Scope) (y0 : Str) (f c' : Addr) : Cx where
  prog := X.prog
  w := X.w
  K := X.K
  mg := X.mg
  base := X.base
  A := A.deeper (lamEnv X scope s.heap.objs.size f c')
  N := X.N ++ [y0]
  s_0 := s
  H_0 := H
  env := lamEnv X scope s.heap.objs.size f c'
  outer := outer
  stack := lamEnv X scope s.heap.objs.size f c' :: outer
  ex := []
  fn := fun _ => false
  calm := true
  pn := []
  xe := fun _ _ => False
section
variable {X : Cx} {pins : List (Addr × Obj)} {σ : L2.St} {H HZ : Hp} {s s1 : Shared}
theorem lam_start1 {A : Around} {outer : List Env} {scope : Scope} {y0 : Str} {f c' : Addr} {h₁ : Heap} {tk : Nat} {v0 : V} {u0 : Value} (I : Inv X pins σ H s) (L : LamS1 X.env.scope scope y0) (hy0 : y0 ∉ X.N) (e0 : Env0 X.prog X.w X.K X.mg X.base A outer s1 HZ) (hd : A.handled = none)
    (un : Un (frs X.stack) [] H HZ s.heap s1.heap) (r0 : L2.RelV v0 u0) (hns : h₁.Ns s1.heap.objs.size fun y => ([(y0, u0)] : List (Str × Value)).reverse.lookup y) (kp : ∀ b o, s1.heap.get? b = some o → h₁.get? b = some o) :
    Inv (lamCx1 X A outer s1 HZ scope y0 f c') [] (σ ++ [some v0]) HZ { s1 with heap := h₁, toks := tk } := by
  have hfree := L.has I.ok
  have cm : ∀ {y c}, (cloFrom X.env.cells scope.names []).lookup y = some c → X.env.cells.lookup y = some c := fun {y c} e => by
    rcases cloFrom_mem (PySem.mem_of_lookup e) with hm | ⟨h1, h2⟩
    · cases hm
    · obtain ⟨c1, hc⟩ := hfree _ h1 rfl
      have hc : X.env.cells.lookup y = some c1 := hc
      have e2 : c = c1 := by
        rw [h2, hc] <;> rfl
      rw [e2]
      exact hc
  have look : ∀ {y}, scope.names.lookup y = some .free → ∃ c, (cloFrom X.env.cells scope.names []).lookup y = some c := fun {y} hl => by
    have hy : (y, NameKind.free) ∈ scope.names := PySem.mem_of_lookup hl
    exact mem_lookup (cloFrom_has (cells := X.env.cells) (acc := []) hy)
  have cellK : ∀ {c : Addr} {v : Option Value}, H c = none → s.heap.IsCell c v → h₁.IsCell c v := fun {c v} n ⟨o, ho, hd⟩ => by
    obtain ⟨sl, q⟩ := un.any ho n (by simp)
    exact ⟨_, kp _ _ q, hd⟩
  have noA : ∀ b : Addr, b ∉ (lamCx1 X A outer s1 HZ scope y0 f c').ex := fun b z => absurd (show b ∈ ([] : List Addr) from z) (by simp)
  refine ⟨⟨e0.mod, L.kind, rfl, rfl, Nat.le_refl _, fun y z c e1 e2 => I.ok.inj y z c (cm e1) (cm e2), fun y hy => ?_, fun y c z _ => ?_, fun _ => hd, Around.frames_deeper e0.frames, .inr ⟨rfl, rfl⟩, fun b z => absurd z (noA b), e0.bs, e0.bsz, fun b _ _ => noA b,
      fun b z => absurd z (noA b), e0.funs, e0.frf⟩,
    rfl, e0.bare, Un.kept kp, ⟨_, hns, fun i y v e1 e2 e3 => ?_⟩, fun y c e => ?_, e0.hok.fresh (Nat.le_refl _), fun y c e => ?_, fun q hq => absurd (show q ∈ ([] : List (Addr × Obj)) ++ [] from hq) (by simp), e0.hok.kept kp, ?_⟩
  · have hy : scope.names.lookup y = some .cell ∨ scope.names.lookup y = some .free := hy
    rcases hy with hy | hy
    · exact absurd rfl (L.noc _ (PySem.mem_of_lookup hy))
    · exact look hy
  · have z : false = true := z
    cases z
  · have e3 : Vis scope y := e3
    have e1 : (X.N ++ [y0])[i]? = some y := e1
    have lN : σ.length = X.N.length := I.len
    by_cases hy : y = y0
    · subst hy
      have hi : i = X.N.length := by
        by_cases hlt : i < X.N.length
        · rw [List.getElem?_append_left hlt] at e1
          exact absurd (List.mem_of_getElem? e1) hy0
        · have := (List.getElem?_eq_some_iff.mp e1).1
          simp at this
          omega
      subst hi
      rw [← lN, List.getElem?_append_right (Nat.le_refl _), Nat.sub_self] at e2
      cases e2
      exact ⟨u0, r0, .inl ⟨L.par, by simp⟩⟩
    · have hlt : i < X.N.length := by
        by_cases hlt : i < X.N.length
        · exact hlt
        · rw [List.getElem?_append_right (by omega)] at e1
          have : i - X.N.length = 0 := by
            have := (List.getElem?_eq_some_iff.mp e1).1
            simpa using this
          rw [this] at e1
          exact absurd (Option.some.inj e1).symm hy
      rw [List.getElem?_append_left hlt] at e1
      rw [List.getElem?_append_left (by omega)] at e2
      rcases e3 with k | k | k
      · exact absurd (L.own _ (PySem.mem_of_lookup k) rfl) hy
      · exact absurd rfl (L.noc _ (PySem.mem_of_lookup k))
      · obtain ⟨m, hn, hl⟩ := I.loc
        have hvis : Vis X.env.scope y := (L.free _ (PySem.mem_of_lookup k) rfl).elim (fun k => .inr (.inl k)) (fun k => .inr (.inr k))
        obtain ⟨w', r, q⟩ := hl i y v e1 e2 hvis
        obtain ⟨c2, h2⟩ := look k
        refine ⟨w', r, .inr ⟨.inr k, c2, h2, ?_⟩⟩
        have c1 := cm h2
        rcases q with ⟨k', _⟩ | ⟨_, c3, e', z⟩
        · have k' : X.env.scope.names.lookup y = some .local := k'
          rcases L.free _ (PySem.mem_of_lookup k) rfl with k2 | k2 <;> rw [show X.env.scope.names.lookup y = _ from k2] at k' <;> cases k'
        · rw [c1] at e'
          cases e'
          exact cellK (I.freeC y _ c1) z
  · obtain ⟨w', z⟩ := I.cell y c (cm e)
    exact ⟨w', cellK (I.freeC y c (cm e)) z⟩
  · obtain ⟨v, o, ho, hd⟩ := I.cell y c (cm e)
    exact un.free c o ho (I.freeC y c (cm e)) (by simp)
  · show (σ ++ [some v0]).length = (X.N ++ [y0]).length
    rw [List.length_append, List.length_append, I.len]
    rfl
/-- x(e) in the def that got the lambda: that def's context, entered at s -/
theorem we_act {Ng : List Str} {qg : Str} {sg : Scope} {g f c' : Addr} {cdg pm ctv : Value} {params : Arguments} {body : Expr} {scope : Scope} {y0 : Str} {k i : Nat} {a : Str} {Eg : XK} {p1 p2 : Pos} {arg : Expr}
    (I : Inv X pins σ H s) (L : LamS1 X.env.scope scope y0) (hy0 : y0 ∉ X.N) (hf : s.heap.get? f = some (PySem.W.kla_obj "<lambda>" (X.env.qual ++ "<lambda>") params body scope (cloFrom X.env.cells scope.names []) pm c' ctv)) (hfn : H f = none) (hfr : f ∉ frs X.stack)
    (hbind : ∀ u, bindArgs (PySem.W.kla_fn "<lambda>" (X.env.qual ++ "<lambda>") params body scope (cloFrom X.env.cells scope.names []) pm (.ref c') ctv) ⟨[u], []⟩ = pure [(y0, u)])
    (hr : Room (k + 1) (X.A.deeper (envOfC qg sg s.heap.objs.size g cdg)))
    (hN : Ng[i]? = some a) (hv : Vis sg a) {σZ : L2.St} {HZ : Hp} {Q : VK}
    (hs : σZ[i]? = some (some (.ref f)))
    (ha : wA (cxOf CX0 X.prog X.w X.K X.mg X.base Ng qg sg g cdg X.A X.stack s H Eg).nox [arg] σZ HZ fun vs H1 => ∃ v, vs = [v] ∧ H1 c' = some (CodeO c' (X.env.qual ++ "<lambda>")) ∧
      ∀ (A : Around) (outer : List Env) (s : Shared) (H : Hp), Room k (A.deeper (lamEnv X scope s.heap.objs.size f c')) → wE (lamCx1 X A outer s H scope y0 f c') body (σ ++ [some v]) H1 Q)
    (hd : (a == ("__debug__" : Str)) = false := by decide) (hcd : (a == ("__classdict__" : Str)) = false := by decide)
    (he : starEach [arg] (cxOf CX0 X.prog X.w X.K X.mg X.base Ng qg sg g cdg X.A X.stack s H Eg).nox.env = (false, eval arg (cxOf CX0 X.prog X.w X.K X.mg X.base Ng qg sg g cdg X.A X.stack s H Eg).nox.env) :: starEach [] (cxOf CX0 X.prog X.w X.K X.mg X.base Ng qg sg g cdg X.A X.stack s H Eg).nox.env := by rfl) :
    wE (cxOf CX0 X.prog X.w X.K X.mg X.base Ng qg sg g cdg X.A X.stack s H Eg).nox (.Call (.Name a p1) [arg] [] p2) σZ HZ Q := by
  intro pinsZ sZ IZ
  refine wpAny_Call_Name_kw (thn ((pe_var (X := (cxOf CX0 X.prog X.w X.K X.mg X.base Ng qg sg g cdg X.A X.stack s H Eg).nox) (pos := p1) (i := i) hN hv hd hcd).run pinsZ sZ σZ HZ (fun v H1 => v = .ref f ∧ H1 = HZ) IZ ⟨.ref f, hs, rfl, rfl⟩) fun u s1 ⟨v, H1, I1, r1, q1⟩ => ?_)
  obtain ⟨ev, eH⟩ := q1
  subst ev
  rw [eH] at I1
  obtain rfl : u = Value.ref f := r1
  have of1 : s1.heap.get? f = some (PySem.W.kla_obj "<lambda>" (X.env.qual ++ "<lambda>") params body scope (cloFrom X.env.cells scope.names []) pm c' ctv) := I1.base.keep f _ hf hfn hfr (fun z => nomatch (show f ∈ ([] : List Addr) from z))
  refine PySem.W.callWith_F ⟨_, _, _, _, of1⟩ (thn (ha _ pinsZ s1 I1) fun us s2 ⟨vs, H2, I2, r2, q2⟩ => ?_) he (by rfl)
  obtain ⟨v, rfl, hc, hbody⟩ := q2
  cases r2 with
  | @cons _ u0 _ us' rv rvs =>
  cases rvs
  have of2 : s2.heap.get? f = some (PySem.W.kla_obj "<lambda>" (X.env.qual ++ "<lambda>") params body scope (cloFrom X.env.cells scope.names []) pm c' ctv) := I2.base.keep f _ hf hfn hfr (fun z => nomatch (show f ∈ ([] : List Addr) from z))
  refine ⟨⟨_, _, _, _, of2⟩, ?_⟩
  have un : Un (frs X.stack) [] H H2 s.heap s2.heap := I2.base
  obtain ⟨⟨oc, vs, t, hoc, hdc, hvc⟩, _, _⟩ := I2.hok c' _ hc
  have rc : codeAny (model X.prog X.w) (X.A.deeper (envOfC qg sg s.heap.objs.size g cdg)) (.call (.ref f) ⟨[u0], []⟩) (CR CX0 (envOfC qg sg s.heap.objs.size g cdg :: X.stack) X.prog X.w H2 s2 Q E0) s2 := by
    refine PySem.W.kla_callFunE hr.depth of2 rfl L.co L.gen rfl ⟨c', oc, vs, t, rfl, hoc, hdc, hvc⟩ ?_
    rw [hbind]
    refine wpAny_pure (wpAny_newFunctionEnv (fun y hy => L.noc y hy) (fun y hy => by
      have : y = (y0, u0) := by simpa using hy
      rw [this]; exact L.par) (fun h₁ hns hsb => ⟨I2.nolimit.fresh _ hsb, ?_⟩) L.kind)
    show codeAny _ _ (.expr body (lamEnv X scope s2.heap.objs.size f c')) _ _
    have kp : ∀ b o, s2.heap.get? b = some o → h₁.get? b = some o := fun b o e => hsb.extBut b o (Nat.ne_of_lt (Heap.lt_size e)) (Heap.get?_push_of_some _ e)
    have J : Inv (lamCx1 X (X.A.deeper (envOfC qg sg s.heap.objs.size g cdg)) (envOfC qg sg s.heap.objs.size g cdg :: X.stack) s2 H2 scope y0 f c') [] (σ ++ [some v]) H2 { s2 with heap := h₁, toks := s2.toks + ([(y0, u0)] : List (Str × Value)).length } :=
      lam_start1 I L hy0 I2.env0 hr.hd un rv hns kp
    refine PySem.W.kla_codeExpr (wpAny_mono (hbody _ _ s2 H2 (hr.deeper _) [] _ J) (fun v s' hq => ?_) fun e s' hq => (show False from hq).elim)
    obtain ⟨w', H', J', rv, q⟩ := hq
    exact ⟨w', H', J'.os, J'.bare, J'.base, J'.hok, rv, q⟩
  refine wpAny_call (codeAny_mono rc fun r s' hq => ?_)
  cases r with
  | error e => exact False.elim hq
  | ok fl =>
    cases fl with
    | ret u => exact I2.after hq
    | next => exact False.elim hq
    | brk => exact False.elim hq
    | cont => exact False.elim hq
end

/-! ### a def that has its code object by name -/
structure AtL (W : Wo) (x : Str) (st : Stmt) (c P : Addr) : Prop where
  ex : ∃ (f : Addr) (oc : Value) (od : Option Addr) (dV kV doc pm : Value) (an : Option Addr) (ct : Value) (osl : Array (Option Value)) (fd : FuncData), fd = PySem.W.fnOf x x (defArgs st) (defBody st) (defScope st) dV kV doc pm an (.ref c) ct ∧ W.K.lookup f = some ⟨oc, od, .func fd, osl⟩ ∧ PySem.W.codeIn W.K (.ref c) x = true ∧
    FunD W.K x x (defArgs st) (defBody st) (defScope st) [] [] f fd ∧ W.mg x = some (.ref f)
  tb : TabB W.base W.mg c P
theorem cal_ofL {W : Wo} {T : Tb} {k : Nat} {x : Str} {st : Stmt} {N ps : List Str} {R : List Dt → Dt → Prop} {c P : Addr} (a : AtL W x st c P) (S : FnScope N ps (defScope st)) (hb : Bnd x st ps)
    (body : ∀ (f : Addr) (A : Around) (outer : List Env) (s : Shared) (H : Hp) (E : XK) (ds : List Dt) (d : Dt), Room k (A.deeper (envOfC x (defScope st) s.heap.objs.size f (.ref c))) → R ds d → ds.length = ps.length →
      WS T (bX W x N (defScope st) f (.ref c) A outer s H E) (defBody st) (startR N ds) [] { nx := fun _ _ => d = .non, rt := fun d' _ => d' = d }) : Cal W T (k + 1) x ps R := by
  obtain ⟨f, oc, od, dV, kV, doc, pm, an, ct, osl, fd, rfl, lk, hcd, F, hm⟩ := a.ex
  have hpl : ps.length ≤ N.length := by have := congrArg List.length S.pre; rw [List.length_take] at this; omega
  refine ⟨f, _, fn_of lk hcd S (fun vs H Q E h => h.1) (fun A outer s H vs Q E hr h => ?_), hm, F.kp, F.bindsN hb⟩
  obtain ⟨hl, F0, ds, d, fi, r, g, kk⟩ := h
  have hld : ds.length = ps.length := by rw [← r.length]; exact hl
  refine ⟨_, pss_w.nox, ?_⟩
  have w := body f A outer s H E ds d hr g hld F0 H (L2.start N vs) { nx := fun _ H' => Q .non H', rt := Q } fi (slots_start r (by omega)) MemOk.nil
  exact w ⟨fun σ' ρ' M' F' H' e q _ => by
      have e' : d = .non := e
      exact kk .non F' H' q.fine q.stp (by rw [e']; exact rp_non.mpr rfl), fun v d' M' F' H' e q rr => by
      have e' : d' = d := e
      subst e'
      exact kk v F' H' q.fine q.stp rr, fun _ _ _ _ _ e => e.elim, fun _ _ _ _ _ e => e.elim⟩
/-- a promise holds over a wider base -/
theorem Cal.wider {W : Wo} {T T' : Tb} {k : Nat} {x : Str} {ps : List Str} {R : List Dt → Dt → Prop} (h : Cal W T k x ps R) (et : T'.tabs = T.tabs) (eb : Ex T.base T'.base) : Cal W T' k x ps R := by
  obtain ⟨f, fd, F, h1, h2, h3⟩ := h.ex
  refine ⟨f, fd, F.imp ?_, h1, h2, h3⟩
  rintro vs H Q E ⟨hl, F0, ds, d, fi, r, g, kk⟩
  exact ⟨hl, F0, ds, d, ⟨fi.sub, et ▸ fi.tab, fi.nt, eb.trans fi.bs⟩, r, g, fun v F' H' f' st rv => kk v F' H' ⟨f'.sub, et.symm ▸ f'.tab, f'.nt, fi.bs.trans st.ff⟩ st rv⟩

/-! ### first_where(things, lambda k: ..) -/
def fwD (b : Nat → Bool) (n : Nat) : Dt := match (List.range n).find? b with
  | some k => .int (k : Int)
  | none => .non
section
variable {W : Wo} {T : Tb}
theorem fw_body {g : Addr} {cdv : Value} {A : Around} {outer : List Env} {s : Shared} {H : Hp} {E : XK} {f : Addr} {ds : List Dt} {b : Nat → Bool} (mr : W.mg "range" = none) (ml : W.mg "len" = none) (hn : ds.length ≤ 100000)
    (hY : ∀ (i : Nat) (p1 p2 p3 : Pos), i < ds.length → ED T (bX W "first_where" N_first_where (defScope s_first_where) g cdv A outer s H E) (.Call (.Name "is_bad" p1) [.Name "k" p3] [] p2) [some (.tup ds), some (.adr f), some (.int (0 + (i : Int)))] (.bl (b i))) :
    WS T (bX W "first_where" N_first_where (defScope s_first_where) g cdv A outer s H E) (defBody s_first_where) (startR N_first_where [.tup ds, .adr f]) [] { nx := fun _ _ => fwD b ds.length = .non, rt := fun d' _ => d' = fwD b ds.length } := by
  refine ws_find (xs := List.range ((ds.length : Int)).toNat) (f := fun (i : Nat) => .int (0 + (i : Int))) (p := b) (startR N_first_where [.tup ds, .adr f]) rfl (tg_n (j := 2) sc_first_where.nd rfl (.inl rfl)) Agr.refl
    (iw_rng1 (by rfl) mr (wa_p (ad_cons (ed_b (bd_lenT ml) (by rfl) (ad_cons (ev 0) ad_nil)) ad_nil) ⟨_, rfl, by omega, by omega, rfl, rfl⟩)) ?_ ?_
  · intro i hi
    have hi' : i < ds.length := by rw [List.mem_range] at hi; omega
    refine ⟨_, rfl, ⟨rfl, rfl, trivial⟩, td_val (hY i _ _ _ hi'), fun hf nx bk ct => ws_one (w1_retp (ev 2) ?_)⟩
    have hf' : (List.range ds.length).find? b = some i := by simpa using hf
    show _ = fwD b ds.length
    unfold fwD
    rw [hf', Int.zero_add]
  · intro hf
    have hf' : (List.range ds.length).find? b = none := by rw [show ((ds.length : Int)).toNat = ds.length by omega] at hf; exact hf
    refine ws_one (w1_retp ed_non ?_)
    show _ = fwD b ds.length
    unfold fwD
    rw [hf']
end
section
variable {X : Cx} {T : Tb} {ρ : Rho}
theorem ed_fw {e body : Expr} {params : Arguments} {scope : Scope} {lpos p pos : Pos} {c P : Addr} {k : Nat} {y0 : Str} {ds : List Dt} {b : Nat → Bool}
    (A : At (Cx.wo X) "first_where" s_first_where) (mr : X.mg "range" = none) (ml : X.mg "len" = none) (hg : Gl X "first_where")
    (TB : TabB X.base X.mg c P) (hcode : X.env.code = .ref c) (hmT : (P, X.env.qual ++ "<lambda>") ∈ T.tabs) (hu : ∀ p ∈ T.tabs, p.1 = P → p.2 = X.env.qual ++ "<lambda>")
    (hr : Room (k + 2) X.A) (L : LamS1 X.env.scope scope y0) (hy0 : y0 ∉ X.N) (hdef : defaultsOf params X.env = ([], []))
    (hbind : ∀ (q : Str) (cl : List (Str × Addr)) (pm cv ctv u : Value), bindArgs (PySem.W.kla_fn "<lambda>" q params body scope cl pm cv ctv) ⟨[u], []⟩ = pure [(y0, u)])
    (ha : ED T X e ρ (.tup ds)) (hn : ds.length ≤ 100000)
    (hbody : ∀ i < ds.length, ∀ T' : Tb, T'.tabs = T.tabs → Ex T.base T'.base → ∀ (A : Around) (outer : List Env) (s : Shared) (H : Hp) (f c' : Addr), Room k (A.deeper (lamEnv X scope s.heap.objs.size f c')) → ED T' (lamCx1 X A outer s H scope y0 f c') body (ρ ++ [some (.int (i : Int))]) (.bl (b i)))
    (he : starEach [e, .Lambda params body scope lpos] X.env = (false, eval e X.env) :: starEach [.Lambda params body scope lpos] X.env := by exact st_any rfl)
    (hpl : (backTo pos (starEach [.Lambda params body scope lpos] X.env)).any (·.1) = false := by rfl) :
    ED T X (.Call (.Name "first_where" p) [e, .Lambda params body scope lpos] [] pos) ρ (fwD b ds.length) := by
  intro F H σ Q fi sl kk pins s I
  obtain ⟨g, fd, FD, hm⟩ := A.ex
  obtain ⟨oc, od, dV, kV, doc, pm, an, cdv, ct, osl, rfl, lk, hcg, _, _⟩ := FD.ex
  refine wpAny_Call_Name_kw (ld_glob I hg hm ?_ (by decide))
  refine PySem.W.callWith_K (h₀ := X.base) I.ok.mod.kin FD.kp ?_ he hpl
  rw [he]
  show wpAny _ _ (spliced ((false, eval e X.env) :: (false, eval (.Lambda params body scope lpos) X.env) :: backTo pos (starEach [] X.env))) _ _ s
  refine Calls.spliced_cons (thn (ha F H σ (fun v H1 => ∃ F1, Fine T F1 H1 ∧ Stp [] F H F1 H1 ∧ Rp X.K F1 v (.tup ds)) fi sl (fun v F1 H1 f1 st1 r1 => ⟨F1, f1, st1, r1⟩) pins s I) fun u s1 ⟨v, H1, I1, rv, F1, f1, st1, r1⟩ => ?_)
  refine Calls.spliced_cons (lam_make2 I1 TB hcode hmT hu f1.tab hdef (L.has I1.ok) fun f c' pm' ctv H2 s2 I2 eN T2 hf hfn hfr hco => ?_)
  refine Calls.spliced_nil ⟨I2.kIn, ?_⟩
  have sub2 : Ex F1 H2 := fun a o h => eN a o (f1.sub a o h) fun ps z => f1.nt a ps (z ▸ h)
  have nMu : ∀ u, Mu u → u ≠ CodeO c' (X.env.qual ++ "<lambda>") := fun u h z => by
    rcases h with ⟨vs, e⟩ | ⟨vs, e⟩ <;> rw [z] at e <;> unfold CodeO at e <;> cases e
  obtain ⟨F2, e12, hc2, f2, st2⟩ : ∃ F2, Ex F1 F2 ∧ F2 c' = some (CodeO c' (X.env.qual ++ "<lambda>")) ∧ Fine T F2 H2 ∧ Stp [] F1 H1 F2 H2 := by
    by_cases h1 : F1 c' = none
    · refine ⟨upd F1 c' (CodeO c' (X.env.qual ++ "<lambda>")), Ex.new h1, upd_same, ⟨fun a o h => ?_, T2, fun a ps h => ?_, f1.bs.trans (Ex.new h1)⟩, ⟨Ex.new h1, fun a o _ h n => eN a o h n, fun a o _ h n z => ?_⟩⟩
      · by_cases q : a = c'
        · subst q; rw [upd_same] at h; rw [← Option.some.inj h]; exact hco
        · rw [upd_ne q] at h; exact sub2 a o h
      · by_cases q : a = c'
        · subst q; rw [upd_same] at h; exact codeO_ne ps (Option.some.inj h)
        · rw [upd_ne q] at h; exact f1.nt a ps h
      · by_cases q : a = c'
        · subst q
          have := eN _ _ h n.nt
          rw [hco] at this
          exact absurd (Option.some.inj this).symm (nMu o n)
        · rw [upd_ne q]; exact z
    · refine ⟨F1, Ex.refl F1, ?_, ⟨sub2, T2, f1.nt, f1.bs⟩, ⟨Ex.refl F1, fun a o _ h n => eN a o h n, fun a o _ _ _ z => z⟩⟩
      cases q : F1 c' with
      | none => exact absurd q h1
      | some u =>
        have := sub2 _ _ q
        rw [hco] at this
        exact this.symm
  let T' : Tb := ⟨T.tabs, F2⟩
  have f2' : Fine T' F2 H2 := ⟨f2.sub, f2.tab, f2.nt, Ex.refl F2⟩
  have rc : codeAny (model X.prog X.w) X.A (.call (.ref g) ⟨[u, .ref f], []⟩) (CR CX0 X.stack X.prog X.w H2 s2 Q E0) s2 := by
    refine run_ofS (N := N_first_where) (ps := P_first_where) (us := [u, .ref f]) (vs := [v, .ref f]) lk hcg sc_first_where hr I2.env0 (FD.bindsN bn_first_where s2 [u, .ref f] I2.kIn rfl) (.cons rv (.cons rfl .nil)) rfl fun hr' => ?_
    refine ⟨_, pss_w.nox, ?_⟩
    have w := fw_body (W := Cx.wo X) (T := T') (g := g) (cdv := cdv) (A := X.A) (outer := X.stack) (s := s2) (H := H2) (E := E0) (f := f) (ds := ds) (b := b) mr ml hn ?_
    · refine w F2 H2 (L2.start N_first_where [v, .ref f]) { nx := fun _ H' => Q .non H', rt := Q } f2' ?_ MemOk.nil ⟨fun σ' ρ' M' F' H' ee q _ => ?_, fun v' d' M' F' H' ee q rr => ?_, fun _ _ _ _ _ e => e.elim, fun _ _ _ _ _ e => e.elim⟩
      · exact slots_start (.cons (r1.mono e12) (.cons (rp_adr.mpr rfl) .nil)) (by show (2 : Nat) ≤ 3; decide)
      · have ee' : fwD b ds.length = .non := ee
        refine kk .non F' H' ⟨q.fine.sub, q.fine.tab, q.fine.nt, ?_⟩ ((st1.trans0 st2).trans0 q.stp) (by rw [ee']; exact rp_non.mpr rfl)
        exact (f2.bs).trans q.stp.ff
      · have ee' : d' = fwD b ds.length := ee
        subst ee'
        exact kk v' F' H' ⟨q.fine.sub, q.fine.tab, q.fine.nt, f2.bs.trans q.stp.ff⟩ ((st1.trans0 st2).trans0 q.stp) rr
    · intro i p1 p2 p3 hi FZ HZ σZ QZ fZ sZ kZ
      have hs1 : σZ[1]? = some (some (.ref f)) := by
        obtain ⟨w, e1, e2⟩ := sZ.at_ 1 (.adr f) rfl
        rw [rp_adr.mp e2] at e1
        exact e1
      refine we_act (X := X) (i := 1) (k := k) I2 L hy0 hf hfn hfr (fun u => hbind _ _ _ _ _ u) hr' rfl (.inl rfl) hs1 ?_
      refine (ad_cons (ev 2) ad_nil : AD T' (bX (Cx.wo X) "first_where" N_first_where (defScope s_first_where) g cdv X.A X.stack s2 H2 E0) [.Name "k" p3] [some (.tup ds), some (.adr f), some (.int (0 + (i : Int)))] [.int (0 + (i : Int))]) FZ HZ σZ _ fZ sZ fun vs F3 H3 f3 st3 r3 => ?_
      obtain ⟨v3, rfl, rv3⟩ := vs1 r3
      rw [rp_int.mp rv3, Int.zero_add]
      refine ⟨_, rfl, f3.sub _ _ (f3.bs _ _ hc2), fun A outer s H hrr => ?_⟩
      have sl3 : Slots X.K F3 (σ ++ [some (.int (i : Int))]) (ρ ++ [some (.int (i : Int))]) := by
        have s0 := sl.mono ((st1.ff.trans e12).trans f3.bs)
        refine ⟨by rw [List.length_append, List.length_append, s0.len]; rfl, fun j d hj => ?_⟩
        by_cases hjl : j < ρ.length
        · rw [List.getElem?_append_left hjl] at hj
          rw [List.getElem?_append_left (by rw [s0.len]; exact hjl)]
          exact s0.at_ j d hj
        · have hj1 : j = ρ.length := by
            have := (List.getElem?_eq_some_iff.mp hj).1
            simp at this
            omega
          subst hj1
          rw [List.getElem?_append_right (Nat.le_refl _), Nat.sub_self] at hj
          have e0 : d = .int (i : Int) := by simpa using hj.symm
          subst e0
          refine ⟨_, by rw [← s0.len, List.getElem?_append_right (Nat.le_refl _), Nat.sub_self]; rfl, rp_int.mpr rfl⟩
      exact hbody i hi T' rfl f2.bs A outer s H f c' hrr F3 H3 _ QZ f3 sl3 fun v' F' H' f' st' rv' => kZ v' F' H' f' (st3.trans0 st') rv'
  refine wpAny_call (codeAny_mono rc fun r s3 hq => ?_)
  cases r with
  | error e => exact (show False from hq).elim
  | ok fl =>
    cases fl with
    | ret u => exact I2.after hq
    | next => exact False.elim hq
    | brk => exact False.elim hq
    | cont => exact False.elim hq
end
end BL
set_option maxHeartbeats 4000000
/-! Foundation, part 10: sorted(set(xs)), xs a list of ints; dicts -/
namespace L2
open PySem PySem.Spec PyProof.Rows
section
variable {P : Program} {w : World} {A : Around} {E : Value → Shared → Prop} {s : Shared}
set_option maxRecDepth 100000 in
set_option maxHeartbeats 3200000 in
theorem call_set_lstI {l : Addr} {items : Array Value} (ns : List Int) {Q : Value → Shared → Prop} (hh : A.handled = none) (hl : s.heap.IsList l items) (hit : IntsAre items.toList ns) (hb : ns.length + 1 < scanBound)
    (h : ∀ (h' : Heap) (tk c : Nat), SetR w h' s.heap.objs.size (fun j => decide (j ∈ ns)) c → c ≤ ns.length → (∀ b o, s.heap.get? b = some o → h'.get? b = some o) → Q (.ref s.heap.objs.size) { s with heap := h', toks := tk }) :
    wpAny (model P w) A (call (.type "set") [.ref l]) Q E s := by
  have hisz : items.size = ns.length := by
    have q := IntsAre.length hit
    rw [Array.length_toList] at q
    exact q
  obtain ⟨c, tl, hmro⟩ := F.called_set.mro
  have hmade := F.called_set.made
  have hsub := F.called_set.sub
  refine wpAny_call (codeAny_of_tree ?_)
  show wpAny _ _ (callAny (.type "set") _) _ _ _
  refine wpAny_pure ⟨Code.quiet_builtin _ (by decide +kernel), codeAny_builtin F.entry_type_call ?_⟩
  rw [Around.under_plain (weight_type_call_type "set" [.ref l] []) rfl]
  have h1 := F.called_set.notType
  have h2 := F.called_set.canCreate
  have hct := F.typeCall_set_1 (.ref l)
  repeat (any_goals (first | assumption | wp_step))

  refine codeAny_mono (code_set_led1 (.ref l) (E := E) (Q₁ := fun obj s₁ => obj = .ref s.heap.objs.size ∧ s₁ = { s with heap := s.heap.push { cls := .type "set", dict := none, data := .set #[] 0 (.fresh 0 0 (!w.params.followText "set-order")) } }) ⟨rfl, rfl⟩) fun r s₁ hr => ?_
  cases r with
  | error e => exact hr
  | ok fl =>
    cases fl with
    | ret obj =>
      obtain ⟨rfl, rfl⟩ := hr
      have hS : (s.heap.push { cls := .type "set", dict := none, data := .set #[] 0 (.fresh 0 0 (!w.params.followText "set-order")) }).get? s.heap.objs.size = some { cls := .type "set", dict := none, data := .set #[] 0 (.fresh 0 0 (!w.params.followText "set-order")) } := Heap.get?_push_size _ rfl
      have hT : Shared.TypeIs { s with heap := s.heap.push { cls := .type "set", dict := none, data := .set #[] 0 (.fresh 0 0 (!w.params.followText "set-order")) } } (.ref s.heap.objs.size) "set" := ⟨_, hS, rfl⟩
      have hli := F.called_set.init.lookup
      have hbi := F.called_set.init.bind (.ref s.heap.objs.size)
      repeat (any_goals (first | assumption | wp_step))

      refine codeAny_mono (codeAny_call_builtin (R := wants (fun r s₂ => r = .none ∧ ∃ h' tk c, s₂ = { s with heap := h', toks := tk } ∧ SetR w h' s.heap.objs.size (fun j => decide (j ∈ ns)) c ∧ c ≤ ns.length ∧
          (∀ b o, s.heap.get? b = some o → h'.get? b = some o)) E) F.called_set.init.plain F.entry_set_init (check_set_init_1 hT ?_)) fun r₂ s₂ hr₂ => ?_
      · obtain ⟨ol, hol, hcl, nl, hdl⟩ := hl
        obtain ⟨ocls, odict, odata, oslots⟩ := ol
        simp only at hcl hdl
        subst hcl; subst hdl
        have hol' : (s.heap.push { cls := .type "set", dict := none, data := .set #[] 0 (.fresh 0 0 (!w.params.followText "set-order")) }).get? l = some { cls := .type "list", dict := odict, data := .seq items nl, slots := oslots } := Heap.get?_push_of_some _ hol
        have hsls := F.sub_list_set
        have hslf := F.sub_list_frozenset
        have hne : (Value.type "list" == Value.type "dict") = false := by decide
        have hl1 : (s.heap.push { cls := .type "set", dict := none, data := .set #[] 0 (.fresh 0 0 (!w.params.followText "set-order")) }).IsList l items := ⟨_, hol', rfl, nl, rfl⟩
        unfold Builtin.«set.__init__» noKeywords Builtin.Frozenset.updateFrom
        generalize hPI : pyIter = PI
        wp_walk
        subst hPI

        refine wpAny_pyIter_list hl1 ?_
        refine wpAny_bind (wpAny_runValue ?_)
        have hlS : l < s.heap.objs.size := Heap.lt_size hol
        have hh3 : A.in1.in1.in1.handled = none := by simp [hh]
        have hz1 : (s.heap.push { cls := .type "set", dict := none, data := .set #[] 0 (.fresh 0 0 (!w.params.followText "set-order")) }).objs.size = s.heap.objs.size + 1 := Heap.size_push ..
        have hneI : l ≠ (s.heap.push { cls := .type "set", dict := none, data := .set #[] 0 (.fresh 0 0 (!w.params.followText "set-order")) }).objs.size := by
          rw [Heap.size_push]; exact Nat.ne_of_lt (Nat.lt_succ_of_lt hlS)
        have hSf : s.heap.objs.size ∉ [(s.heap.push { cls := .type "set", dict := none, data := .set #[] 0 (.fresh 0 0 (!w.params.followText "set-order")) }).objs.size, l] := by
          rw [Heap.size_push]; simp only [List.mem_cons, List.mem_singleton, List.not_mem_nil, or_false, not_or]
          exact ⟨Nat.ne_of_lt (Nat.lt_succ_self _), Nat.ne_of_gt hlS⟩
        have hval : ∀ (i : Nat) (v : Value), items[i]? = some v → ∃ k t, ns[i]? = some k ∧ v = .int k t := fun i v hv => by
          have hi : i < ns.length := by rw [← hisz]; exact (Array.getElem?_eq_some_iff.mp hv).1
          obtain ⟨t, e⟩ := PyProof.Rows.IntsAre.int_at hit i v (by rw [Array.getElem?_toList]; exact hv)
          refine ⟨ns[i], t, List.getElem?_eq_getElem hi, ?_⟩
          rw [e, List.getD_eq_getElem?_getD, List.getElem?_eq_getElem hi] <;> rfl
        refine set_update_ints ((Walks.list hh3 _ l hneI items).toS) s.heap.objs.size
          hSf ns hisz hb hval (items.size - 0) 0 _ (by omega) (Nat.zero_le _)
          ⟨⟨_, Heap.get?_push_size _ rfl, rfl, rfl⟩, (hl1.push _)⟩ ?hS0 ?hR
        case hS0 =>
          have hget : ((s.heap.push { cls := .type "set", dict := none, data := .set #[] 0 (.fresh 0 0 (!w.params.followText "set-order")) }).push { cls := .type "list_iterator", data := .fields #[.ref l, .int 0 0] }).get? s.heap.objs.size
              = some { cls := .type "set", dict := none, data := .set #[] 0 (.fresh 0 0 (!w.params.followText "set-order")) } := Heap.get?_push_of_some _ hS
          exact ⟨0, Nat.le_refl 0, setR_new_at hget⟩
        case hR =>
          intro s' c' hm hc' hS'
          obtain ⟨h', g2, d', tk', os'⟩ := s'
          have eg : g2 = s.gens := hm.gens
          have ed : d' = s.drawn := hm.drawn
          have eo : os' = s.os := hm.os
          subst eg; subst ed; subst eo
          show wpAny _ _ _ _ _ _
          refine wpAny_pure ?_
          show wpAny _ _ (ret Value.none) _ _ _
          rw [hisz] at hc'
          refine wpAny_pure ⟨rfl, h', tk', c', rfl, hS', hc', fun b o e => ?_⟩
          have hb0 : b < s.heap.objs.size := Heap.lt_size e
          have hb1 : b ≠ s.heap.objs.size := Nat.ne_of_lt hb0
          have hb2 : b ≠ (s.heap.push { cls := .type "set", dict := none, data := .set #[] 0 (.fresh 0 0 (!w.params.followText "set-order")) }).objs.size := by
            rw [Heap.size_push]; exact Nat.ne_of_lt (Nat.lt_succ_of_lt hb0)
          exact hm.heap b o (by simp only [List.mem_cons, List.mem_singleton, List.not_mem_nil, or_false, not_or]; exact ⟨hb1, hb2⟩) (Heap.get?_push_of_some _ (Heap.get?_push_of_some _ e))

      · cases r₂ with
        | error e => exact hr₂
        | ok fl₂ =>
          cases fl₂ with
          | ret r =>
            obtain ⟨rfl, h', tk, c', rfl, hS', hc', hk'⟩ := hr₂
            repeat (any_goals (first | assumption | wp_step))
            exact h _ _ _ hS' hc' hk'
          | _ => exact hr₂.elim
    | _ => exact hr.elim

end
end L2
namespace BL
open PySem PySem.Spec PyProof.Rows L2 Evl
/-! ### sorted, each once -/
def insU (x : Int) : List Int → List Int
  | [] => [x]
  | y :: ys => if x < y then x :: y :: ys else if x = y then y :: ys else y :: insU x ys
def uS : List Int → List Int
  | [] => []
  | x :: xs => insU x (uS xs)
theorem insU_mem {x k : Int} : ∀ {ys : List Int}, k ∈ insU x ys ↔ k = x ∨ k ∈ ys
  | [] => by simp [insU]
  | y :: ys => by
    unfold insU
    split
    · simp
    · split
      · rename_i h; subst h; simp
      · rw [List.mem_cons, insU_mem, List.mem_cons]
        constructor
        · rintro (h | h | h)
          · exact .inr (.inl h)
          · exact .inl h
          · exact .inr (.inr h)
        · rintro (h | h | h)
          · exact .inr (.inl h)
          · exact .inl h
          · exact .inr (.inr h)
theorem insU_sort {x : Int} : ∀ {ys : List Int}, ys.Pairwise (· < ·) → (insU x ys).Pairwise (· < ·)
  | [], _ => by simp [insU]
  | y :: ys, h => by
    obtain ⟨h1, h2⟩ := List.pairwise_cons.mp h
    unfold insU
    split
    · rename_i q
      exact List.pairwise_cons.mpr ⟨fun z hz => by
        rcases List.mem_cons.mp hz with e | hz
        · rw [e]; exact q
        · exact Int.lt_trans q (h1 z hz), h⟩
    · split
      · exact h
      · rename_i q q'
        exact List.pairwise_cons.mpr ⟨fun z hz => by
          rcases insU_mem.mp hz with e | hz
          · rw [e]; omega
          · exact h1 z hz, insU_sort h2⟩
theorem uS_mem {k : Int} : ∀ {xs : List Int}, k ∈ uS xs ↔ k ∈ xs
  | [] => by simp [uS]
  | x :: xs => by
    show k ∈ insU x (uS xs) ↔ _
    rw [insU_mem, uS_mem, List.mem_cons]
theorem uS_sort : ∀ {xs : List Int}, (uS xs).Pairwise (· < ·)
  | [] => List.Pairwise.nil
  | x :: xs => insU_sort uS_sort
theorem sort_eq : ∀ {xs ys : List Int}, xs.Pairwise (· < ·) → ys.Pairwise (· < ·) → (∀ k, k ∈ xs ↔ k ∈ ys) → xs = ys
  | [], [], _, _, _ => rfl
  | [], y :: ys, _, _, h => absurd ((h y).mpr (by simp)) (by simp)
  | x :: xs, [], _, _, h => absurd ((h x).mp (by simp)) (by simp)
  | x :: xs, y :: ys, h1, h2, h => by
    obtain ⟨a1, a2⟩ := List.pairwise_cons.mp h1
    obtain ⟨b1, b2⟩ := List.pairwise_cons.mp h2
    have e : x = y := by
      rcases List.mem_cons.mp ((h x).mp (by simp)) with e | e
      · exact e
      · rcases List.mem_cons.mp ((h y).mpr (by simp)) with e' | e'
        · exact e'.symm
        · have := b1 x e
          have := a1 y e'
          omega
    subst e
    congr 1
    refine sort_eq a2 b2 fun k => ?_
    constructor
    · intro hk
      rcases List.mem_cons.mp ((h k).mp (by simp [hk])) with e | e
      · have := a1 k hk; omega
      · exact e
    · intro hk
      rcases List.mem_cons.mp ((h k).mpr (by simp [hk])) with e | e
      · have := b1 k hk; omega
      · exact e
theorem insU_len {x : Int} : ∀ {ys : List Int}, (insU x ys).length ≤ ys.length + 1
  | [] => by simp [insU]
  | y :: ys => by
    unfold insU
    split
    · simp
    · split
      · simp
      · have := insU_len (x := x) (ys := ys)
        simp only [List.length_cons]
        omega
theorem uS_len : ∀ {xs : List Int}, (uS xs).length ≤ xs.length
  | [] => Nat.le_refl _
  | x :: xs => by
    have := uS_len (xs := xs)
    have := insU_len (x := x) (ys := uS xs)
    show (insU x (uS xs)).length ≤ _
    simp only [List.length_cons]
    omega
theorem sorted_uS {X : Cx} {pins : List (Addr × Obj)} {σ : L2.St} {H1 : Hp} {s2 : Shared} {a : Addr} {ns : List Int} {c : Nat} {Q : VK} (hc : X.calm = true) (I2 : Inv X pins σ H1 s2) (R1 : SetR X.w s2.heap a (fun j => decide (j ∈ ns)) c) (h64 : c < 64)
    (q1 : ∀ p, H1 p = none → Q (.ref p) (upd H1 p (.lst ((uS ns).map V.int)))) : wpAny (model X.prog X.w) X.A (call (.builtin "sorted") [.ref a]) (EP X pins σ Q) X.xe s2 := by
  refine sorted_set R1 (I2.ok.hd hc) h64 fun s' p out c2 ms k g o hp hg' hi hs hm' hl' => ?_
  have em : ms = uS ns := sort_eq hs uS_sort fun k => by rw [hm' k, uS_mem, decide_eq_true_eq]
  subst em
  have hlen : ((uS ns).map V.int).length ≤ sizeLine := by
    rw [List.length_map, hl', sizeLine_eq]
    omega
  have hn : H1 p = none := I2.hok.fresh hp
  have J : Inv X pins σ (upd H1 p (.lst ((uS ns).map V.int))) { s2 with heap := s'.heap, gens := s'.gens, drawn := s'.drawn, toks := s'.toks } :=
    I2.call (ch := []) (Un.laid k hp hn) (I2.hok.laid k hp ⟨hlen, out.toList, c2, vals_of_ints hi, hg'⟩) (by rw [g]; exact I2.bare) (fun _ z => nomatch z)
  have e : s' = { s2 with heap := s'.heap, gens := s'.gens, drawn := s'.drawn, toks := s'.toks } := by
    cases s'
    cases s2
    cases o
    rfl
  rw [e]
  exact ⟨.ref p, _, J, rfl, q1 p hn⟩
/-- sorted(set(xs)), xs a list of ints -/
theorem pe_sortSet {X : Cx} {a : Expr} {ta : TE} {p p2 q pos : Pos} (hc : X.calm = true) (hg : Gl X "sorted") (hm : X.mg "sorted" = none) (hg2 : Gl X "set") (hm2 : X.mg "set" = none) (ha : PE X a ta)
    (na : starEach [a] X.env = (false, eval a X.env) :: starEach [] X.env := by exact st_any rfl) : PE X (.Call (.Name "sorted" p) [.Call (.Name "set" p2) [a] [] q] [] pos)
      (fun σ H Q => ta σ H fun x H1 => ∃ (l : Addr) (ns : List Int), x = .ref l ∧ SqL X.K H1 l (ns.map V.int) ∧ ns.length < 64 ∧ ∀ p, H1 p = none → Q (.ref p) (upd H1 p (.lst ((uS ns).map V.int)))) := by
  refine ⟨fun pins s σ H Q I h => ?_⟩
  refine Call_ (ld_blt I hg hm PyProof.Rows.boot_sorted ?_)
  refine PyProof.Rows.callWith_builtin1 (PyProof.Rows.args_cons ?_ rfl) rfl rfl
  refine Call_ (ld_blt I hg2 hm2 PyProof.Rows.boot_set ?_)
  refine PyProof.Rows.callWith_type1 (PyProof.Rows.args_cons (thn (ha.run pins s σ H _ I h) fun v s1 ⟨x, H1, I1, r1, q1⟩ => PyProof.Rows.args_nil ?_) na) na rfl
  obtain ⟨l, ns, rfl, hq, hl, q1⟩ := q1
  cases r1
  obtain ⟨its, r, pl, hz⟩ := I1.list hq
  refine call_set_lstI ns (I1.ok.hd hc) pl.isList (ints_of_vals r) (by unfold scanBound; omega) fun h' tk c R1 hcn hk => ?_
  refine PyProof.Rows.args_nil ?_
  have I2 : Inv X pins σ H1 { s1 with heap := h', toks := tk } := I1.kept fun b o e => hk b o e
  exact sorted_uS hc I2 R1 (by omega) q1
theorem ed_sortSet {T : Tb} {X : Cx} {ρ : Rho} {a : Expr} {ns : List Int} {p p2 q pos : Pos} (hm : X.mg "sorted" = none) (hm2 : X.mg "set" = none) (ha : ED T X a ρ (.lst (ns.map .int))) (hl : ns.length < 64) (hc : X.calm = true := by rfl) (hg : Gl X "sorted" := by rfl) (hg2 : Gl X "set" := by rfl)
    (na : starEach [a] X.env = (false, eval a X.env) :: starEach [] X.env := by exact st_any rfl) : ED T X (.Call (.Name "sorted" p) [.Call (.Name "set" p2) [a] [] q] [] pos) ρ (.lst ((uS ns).map .int)) := fun F H σ Q f s k =>
  PE_w (pe_sortSet hc hg hm hg2 hm2 pe_w na) (ha F H σ _ f s fun v F1 H1 f1 s1 r1 => by
    obtain ⟨l, vs, rfl, h1, rv⟩ := rp_lst.mp r1
    have ev := rps_ints rv
    subst ev
    refine ⟨l, ns, rfl, SqL.of (f1.sub _ _ h1), hl, fun p hp => ?_⟩
    obtain ⟨f', s', r'⟩ := lst_new hp f1 (rps_of_ints (uS ns))
    exact k _ _ _ f' (s1.trans0 s') r')
end BL
set_option maxHeartbeats 4000000
/-! plain data: what is heard -/
namespace BL
open PySem PySem.Spec PyProof.Rows L2 Evl
def lessB (x y : Fr) : Bool := decide (x.1 * y.2 < y.1 * x.2)
def coversB (p : Pc) (x : Fr) : Bool := !lessB x (p.at_, 1) && lessB x (p.at_ + p.many, 1)
def goneF (t : Tm) (p : Pc) (x : Fr) : Fr := if p.way = "bound" then minusF x (p.at_, 1) else minusF (momF t x) (momF t (p.at_, 1))
def contF (t : Tm) (p : Pc) (x : Fr) : Fr := plusF p.start (timesF p.speed (goneF t p x))
def crAt (s : Sp) (i : Nat) : Cr := s.getD i ((0, 1), (0, 1))
def levF (s : Sp) (x : Fr) : Fr := match (List.range (s.length - 1)).find? (fun i => !lessB (crAt s (i + 1)).1 x) with
  | some i => partF (crAt s i).2 (crAt s (i + 1)).2 (overF (minusF x (crAt s i).1) (minusF (crAt s (i + 1)).1 (crAt s i).1))
  | none => (crAt s (s.length - 1)).2
def toneF (t : Tm) (tones : List Int) (p : Pc) (x : Fr) : Int :=
  if (contF t p x).1 / (contF t p x).2 < tones.length then tones.getD ((contF t p x).1 / (contF t p x).2).toNat 0 else 0
def soundF (t : Tm) (tones : List Int) (p : Pc) (x : Fr) : Fr := timesF (toneF t tones p x, 1) (levF p.shape (minusF x (p.at_, 1)))
def hiF (l : Ln) (x : Fr) : Option Pc := l.pcs.reverse.find? fun p => coversB p x
def edgesF (ps : List Pc) : List Int := uS (ps.map Pc.at_ ++ ps.map fun p => p.at_ + p.many)
/-! runs -/
abbrev Rn := Int × Int × Int
@[reducible] def rnD (r : Rn) : Dt := .tup [.int r.1, .int r.2.1, .int r.2.2]
/-- one more span -/
def runStep (l : Ln) (acc : List Rn) (be : Int × Int) : List Rn := match hiF l (be.1, 1) with
  | none => acc
  | some p => match acc.getLast? with
    | some r => if r.2.1 = be.1 ∧ r.2.2 = p.n then acc.dropLast ++ [(r.1, be.2, p.n)] else acc ++ [(be.1, be.2, p.n)]
    | none => acc ++ [(be.1, be.2, p.n)]
def spansF (ps : List Pc) : List (Int × Int) := (edgesF ps).zip (edgesF ps).tail
def runsF (l : Ln) : List Rn := (spansF l.pcs).foldl (runStep l) []
/-! sheets by the two deeds -/
def shiftF (s : Sh) (n : Int) (p : Pc) (l l' : Ln) : Sh := 
  let s1 := s.setLn (l.setPcs (l.pcs.filter fun p => !decide (p.n = n)))
  s1.setLn (l'.setPcs (l'.pcs ++ [p]))
theorem levF_fb {s : Sp} {m : Int} {x : Fr} (h : GSp m s) (hx : FBp 100 x) : FBp 400 (levF s x) := by
  have hc : ∀ i, i < s.length → s[i]? = some (crAt s i) := fun i hi => by unfold crAt; rw [List.getElem?_eq_getElem hi, List.getD_eq_getElem?_getD, List.getElem?_eq_getElem hi]; rfl
  have l1 := h.l1
  unfold levF
  split
  · rename_i i hf
    have hi : i < s.length - 1 := by have := List.mem_of_find?_eq_some hf; rwa [List.mem_range] at this
    have e1 := hc i (by omega)
    have e2 := hc (i + 1) (by omega)
    have g1 := h.cr _ (List.mem_of_getElem? e1)
    have g2 := h.cr _ (List.mem_of_getElem? e2)
    have up := h.up i _ _ e1 e2
    have hd := minusF_fb g2.1.fb g1.1.fb
    have hp : 0 < (minusF (crAt s (i + 1)).1 (crAt s i).1).1 := by
      rw [← val_pos hd.ps, show val (minusF (crAt s (i + 1)).1 (crAt s i).1).1 (minusF (crAt s (i + 1)).1 (crAt s i).1).2 = _ from minusF_val g2.1.fb.ps g1.1.fb.ps]
      have := (val_lt g1.1.fb.ps g2.1.fb.ps).mpr up
      grind
    exact (partF_fb g1.2.2.1.fb g2.2.2.1.fb (overF_fb (minusF_fb hx g1.1.fb) hd hp)).up (by decide)
  · have e1 := hc (s.length - 1) (by omega)
    exact ((h.cr _ (List.mem_of_getElem? e1)).2.2.1.fb).up (by decide)
theorem lev_pos {s : Sp} {m : Int} {i : Nat} (h : GSp m s) (hi : i + 1 < s.length) : 0 < (minusF (crAt s (i + 1)).1 (crAt s i).1).1 := by
  have hc : ∀ i, i < s.length → s[i]? = some (crAt s i) := fun i hi => by unfold crAt; rw [List.getElem?_eq_getElem hi, List.getD_eq_getElem?_getD, List.getElem?_eq_getElem hi]; rfl
  have e1 := hc i (by omega)
  have e2 := hc (i + 1) (by omega)
  have g1 := h.cr _ (List.mem_of_getElem? e1)
  have g2 := h.cr _ (List.mem_of_getElem? e2)
  have up := h.up i _ _ e1 e2
  have hd := minusF_fb g2.1.fb g1.1.fb
  rw [← val_pos hd.ps, show val (minusF (crAt s (i + 1)).1 (crAt s i).1).1 (minusF (crAt s (i + 1)).1 (crAt s i).1).2 = _ from minusF_val g2.1.fb.ps g1.1.fb.ps]
  have := (val_lt g1.1.fb.ps g2.1.fb.ps).mpr up
  grind
theorem at_fb {p : Pc} (h : GPc p) : FBp 40 (p.at_, 1) := as_fb (by have := h.a1; have := h.a2; exact bt_of (by simp; omega) (by simp; omega)) (by decide)
theorem end_fb {p : Pc} (h : GPc p) : FBp 40 (p.at_ + p.many, 1) := as_fb (by have := h.a1; have := h.a2; have := h.m1; have := h.m2; exact bt_of (by simp; omega) (by simp; omega)) (by decide)
theorem goneF_fb {t : Tm} {p : Pc} {x : Fr} (ht : GTm t) (h : GPc p) (hx : FBp 40 x) (h0 : 0 ≤ x.1) : FBp 4001 (goneF t p x) := by
  unfold goneF
  split
  · exact (minusF_fb hx (at_fb h)).up (by decide)
  · exact (minusF_fb (momF_fb ht hx h0) (momF_fb ht (at_fb h) h.a1)).up (by decide)
theorem contF_fb {t : Tm} {p : Pc} {x : Fr} (ht : GTm t) (h : GPc p) (hx : FBp 40 x) (h0 : 0 ≤ x.1) : FBp 4100 (contF t p x) :=
  (plusF_fb h.st.fb (timesF_fb h.sp.fb (goneF_fb ht h hx h0))).up (by decide)
end BL
set_option maxHeartbeats 4000000
/-! Foundation, part 11: the pen looked into; draws -/
namespace BL
open PySem PySem.Spec PyProof.Rows L2 Evl
abbrev penL (cells : List Int) (at_ dig : Int) : MO := .lst [.lst (cells.map .int), .int at_, .int dig]
theorem pen_out {K : PySem.W.Frag} {F H : Hp} {p : Addr} {cells : List Int} {at_ dig : Int} {k : Nat} (h : ObjIs K F H p (penL cells at_ dig)) (hl : cells.length ≤ 63) (h0 : 0 ≤ at_) (h1 : at_ ≤ k) (h2 : 0 ≤ dig) : ObjIs K F H p (.pen k) := by
  obtain ⟨vs, hv, rv⟩ := h
  obtain ⟨v1, w1, e1, r1, t1⟩ := rps_cons.mp rv
  obtain ⟨v2, w2, e2, r2, t2⟩ := rps_cons.mp t1
  obtain ⟨v3, w3, e3, r3, t3⟩ := rps_cons.mp t2
  have e4 := rps_nil.mp t3
  obtain ⟨l, us, e5, hF, ru⟩ := rp_lst.mp r1
  have e6 := rps_ints ru
  rw [rp_int.mp r2] at e2
  rw [rp_int.mp r3] at e3
  subst e4 e3 e2 e1 e5 e6
  exact ⟨l, cells, at_, dig, hv, hF, hl, h0, h1, h2⟩
section
variable {T : Tb} {X : Cx} {ρ : Rho}
theorem ws_pen {sts : List Stmt} {E : DE} {p : Addr} {k : Nat} (h : ∀ (cells : List Int) (at_ dig : Int), cells.length ≤ 63 → 0 ≤ at_ → at_ ≤ k → 0 ≤ dig → WS T X sts ρ [(p, penL cells at_ dig)] { nx := fun _ _ => False, rt := fun d M' => ∃ cells' at' dig' k', M' = [(p, penL cells' at' dig')] ∧ cells'.length ≤ 63 ∧ 0 ≤ at' ∧ at' ≤ (k' : Nat) ∧ 0 ≤ dig' ∧ E.rt d [(p, .pen k')] }) :
    WS T X sts ρ [(p, .pen k)] E := fun F H σ D f s m kf => by
  obtain ⟨l, cells, at_, dig, hH, hF, hl, h0, h1, h2⟩ := (m.at_ (p, .pen k) (by simp) : ObjIs X.K F H p (.pen k))
  have m1 : MemOk X.K F H [(p, penL cells at_ dig)] := by
    refine ⟨by simp, fun q hq => ?_, fun q hq => ?_⟩
    · have : q = (p, penL cells at_ dig) := by simpa using hq
      subst this
      exact m.out (p, .pen k) (by simp)
    · have : q = (p, penL cells at_ dig) := by simpa using hq
      subst this
      exact ⟨_, hH, .cons (rp_lst.mpr ⟨l, _, rfl, hF, rps_of_ints cells⟩) (.cons (rp_int.mpr rfl) (.cons (rp_int.mpr rfl) .nil))⟩
  refine h cells at_ dig hl h0 h1 h2 F H σ D f s m1 ⟨fun _ _ _ _ _ e => e.elim, fun v d M' F' H' e q r => ?_, fun _ _ _ _ _ e => e.elim, fun _ _ _ _ _ e => e.elim⟩
  obtain ⟨cells', at', dig', k', rfl, a1, a2, a3, a4, a5⟩ := e
  refine kf.rt v d _ F' H' a5 ⟨q.stp, q.fine, ⟨by simp, fun z hz => ?_, fun z hz => ?_⟩, q.dm⟩ r
  · have : z = (p, MO.pen k') := by simpa using hz
    subst this
    exact q.mem.out (p, penL cells' at' dig') (by simp)
  · have : z = (p, MO.pen k') := by simpa using hz
    subst this
    exact pen_out (q.mem.at_ (p, penL cells' at' dig') (by simp)) a1 a2 a3 a4
/-- predicate transformers -/
theorem we_add' {a b : Expr} {pos : Pos} {M : Mem} {Ψ : Dt → Mem → Prop} (ha : WE T X a ρ M fun da M1 => WE T X b ρ M1 fun db M2 => ∃ i j, da = .int i ∧ db = .int j ∧ Ψ (.int (i + j)) M2) : WE T X (.BinOp a .Add b pos) ρ M Ψ := we_add ha fun _ _ h => h
theorem we_sub' {a b : Expr} {pos : Pos} {M : Mem} {Ψ : Dt → Mem → Prop} (ha : WE T X a ρ M fun da M1 => WE T X b ρ M1 fun db M2 => ∃ i j, da = .int i ∧ db = .int j ∧ Ψ (.int (i - j)) M2) : WE T X (.BinOp a .Sub b pos) ρ M Ψ := we_sub ha fun _ _ h => h
theorem we_mul' {a b : Expr} {pos : Pos} {M : Mem} {Ψ : Dt → Mem → Prop} (ha : WE T X a ρ M fun da M1 => WE T X b ρ M1 fun db M2 => ∃ i j, da = .int i ∧ db = .int j ∧ (-(2 ^ 64) < i ∧ i < 2 ^ 64 ∨ -(2 ^ 64) < j ∧ j < 2 ^ 64) ∧ Ψ (.int (i * j)) M2) : WE T X (.BinOp a .Mult b pos) ρ M Ψ := we_mul ha fun _ _ h => h
theorem wa_cons' {e : Expr} {es : List Expr} {M : Mem} {Ψ : List Dt → Mem → Prop} (ha : WE T X e ρ M fun d M1 => WA T X es ρ M1 fun ds M2 => Ψ (d :: ds) M2) (hst : starEach (e :: es) X.env = (false, eval e X.env) :: starEach es X.env := by exact st_any rfl) : WA T X (e :: es) ρ M Ψ := wa_cons (hst := hst) ha fun _ _ h => h
theorem we_ixL' {a b : Expr} {pos : Pos} {M : Mem} {Ψ : Dt → Mem → Prop} (ha : WE T X a ρ M fun da M1 => WE T X b ρ M1 fun db M2 => ∃ ds i d, da = .lst ds ∧ db = .int i ∧ atI ds i = some d ∧ Ψ d M2) (hp : PlainIx b := by intro _ _; rfl) : WE T X (.Subscript a b pos) ρ M Ψ := we_ixL (hp := hp) ha fun _ _ h => h
theorem we_ixT' {a b : Expr} {pos : Pos} {M : Mem} {Ψ : Dt → Mem → Prop} (ha : WE T X a ρ M fun da M1 => WE T X b ρ M1 fun db M2 => ∃ ds i d, da = .tup ds ∧ db = .int i ∧ atI ds i = some d ∧ Ψ d M2) (hp : PlainIx b := by intro _ _; rfl) : WE T X (.Subscript a b pos) ρ M Ψ := we_ixT (hp := hp) ha fun _ _ h => h
theorem we_eqI' {a b : Expr} {pos : Pos} {M : Mem} {Ψ : Dt → Mem → Prop} (ha : WE T X a ρ M fun da M1 => ∃ i j, da = .int i ∧ ED T X b ρ (.int j) ∧ Ψ (.bl (decide (i = j))) M1) : WE T X (.Compare a [.Eq] [b] pos) ρ M Ψ := we_eqI ha fun _ _ h => h
theorem wt_eqI' {a b : Expr} {pos : Pos} {M : Mem} {Ψ : Bool → Mem → Prop} (ha : WE T X a ρ M fun da M1 => ∃ i j, da = .int i ∧ ED T X b ρ (.int j) ∧ Ψ (decide (i = j)) M1) : WT T X (.Compare a [.Eq] [b] pos) ρ M Ψ := wt_eqI ha fun _ _ h => h
/-- a call with the pen, the other arguments pure -/
theorem we_pc {e : Expr} {es : List Expr} {pos : Pos} {n : Nat} {x : Str} {ps : List Str} {G : List Dt → Nat → (Dt → Nat → Prop) → Prop} {p : Pos} {Ψ : Dt → Mem → Prop} {q : Addr} {k : Nat} {rest : Mem} {ds : List Dt} (hc : CalP (Cx.wo X) T n x ps G) (hr : Room n X.A) (hg : Gl X x)
    (ha : AD T X (e :: es) ρ (.adr q :: ds)) (g : G ds k fun d k' => Ψ d ((q, .pen k') :: rest)) (hl : (Dt.adr q :: ds).length = ps.length := by rfl) (hdb : (x == ("__debug__" : Str)) = false := by decide)
    (he : starEach (e :: es) X.env = (false, eval e X.env) :: starEach es X.env := by exact st_any rfl) (hpl : (backTo pos (starEach es X.env)).any (·.1) = false := by rfl) : WE T X (.Call (.Name x p) (e :: es) [] pos) ρ ((q, .pen k) :: rest) Ψ :=
  we_callP hc hr hg (wa_p ha ⟨q, k, ds, rest, rfl, rfl, hl, g⟩) hdb he hpl
/-- most draws of a run -/
def mostDraws : Nat := 1000000
def G__law_draw (ds : List Dt) (k : Nat) (Ψ : Dt → Nat → Prop) : Prop := ∃ n : Int, ds = [.int n] ∧ 0 < n ∧ n < 2 ^ 40 ∧ k ≤ mostDraws ∧ ∀ (v : Int) (k' : Nat), 0 ≤ v → v < n → k' ≤ k + 1 → Ψ (.int v) k'
end
end BL
set_option maxHeartbeats 4000000
/-! plain data: names and numbers unlike each other -/
namespace BL
open PySem PySem.Spec PyProof.Rows L2 Evl
def begs : List Str := ["", "", "a", "zz", "title", "lanesl", "b"]
def odds : List Int := [1, 3, 5, 7, 9, 11, 15, 17]
theorem str_app {x y : Str} : (x ++ y).cps.toList = x.cps.toList ++ y.cps.toList := by
  show (x.cps ++ y.cps).toList = _
  simp
theorem str_len {x : Str} : x.length = x.cps.toList.length := rfl
/-- ends by the two letters of the code -/
def Ends2 (x : Str) (c : Int) : Prop := ∃ pre : List Nat, x.cps.toList = pre ++ [97 + (c / 26).toNat, 97 + (c % 26).toNat]
theorem Ends2.inj {x : Str} {c e : Int} (h : Ends2 x c) (k : Ends2 x e) (c0 : 0 ≤ c) (c1 : c < 676) (e0 : 0 ≤ e) (e1 : e < 676) : c = e := by
  obtain ⟨p, hp⟩ := h
  obtain ⟨q, hq⟩ := k
  rw [hp] at hq
  have l := congrArg List.length hq
  simp at l
  have := (List.append_inj hq l).2
  simp at this
  omega
def nameF (b : Str) (c : Int) : Str := b ++ (⟨#[97 + (c / 26).toNat]⟩ : Str) ++ (⟨#[97 + (c % 26).toNat]⟩ : Str)
theorem nameF_ends {b : Str} {c : Int} : Ends2 (nameF b c) c := ⟨b.cps.toList, by unfold nameF; rw [str_app, str_app]; simp⟩
theorem begs_ok : ∀ b ∈ begs, b.length ≤ 6 ∧ ∀ c ∈ b.cps.toList, isLow c = true := by decide +kernel
theorem nameF_gn {b : Str} {c : Int} (hb : b ∈ begs) (c0 : 0 ≤ c) (c1 : c < 676) : GN (nameF b c) := by
  obtain ⟨h1, h2⟩ := begs_ok b hb
  have e : (nameF b c).cps.toList = b.cps.toList ++ [97 + (c / 26).toNat] ++ [97 + (c % 26).toNat] := by unfold nameF; rw [str_app, str_app]
  refine ⟨?_, ?_, fun x hx => ?_⟩
  · rw [str_len, e]; simp
  · rw [str_len, e]; rw [str_len] at h1; simp; omega
  · rw [e, List.mem_append, List.mem_append, List.mem_singleton, List.mem_singleton] at hx
    rcases hx with (hx | rfl) | rfl
    · exact h2 x hx
    · have a1 : (c / 26).toNat ≤ 25 := by omega
      simp only [isLow, Bool.and_eq_true, decide_eq_true_eq]
      omega
    · have a1 : (c % 26).toNat ≤ 25 := by omega
      simp only [isLow, Bool.and_eq_true, decide_eq_true_eq]
      omega
def codeF (c0 st : Int) (i : Nat) : Int := (c0 + (i : Int) * st) % 676
theorem codeF_rg {c0 st : Int} {i : Nat} : 0 ≤ codeF c0 st i ∧ codeF c0 st i < 676 := by unfold codeF; omega
theorem codeF_step {c0 st : Int} {i : Nat} : (codeF c0 st i + st) % 676 = codeF c0 st (i + 1) := by
  unfold codeF
  have e : ((i + 1 : Nat) : Int) * st = (i : Int) * st + st := by push_cast; rw [Int.add_mul, Int.one_mul]
  rw [e]
  generalize (i : Int) * st = w
  omega
theorem odds_ok : ∀ o ∈ odds, o % 2 = 1 ∧ 1 ≤ o ∧ o ≤ 17 := by decide
theorem codeF_inj {c0 o w : Int} (ho : o ∈ odds) (w0 : 0 ≤ w) (w1 : w < 13) {i j : Nat} (hi : i < 4) (hj : j < i) : codeF c0 (o + 26 * w) i ≠ codeF c0 (o + 26 * w) j := by
  obtain ⟨a, b, c⟩ := odds_ok o ho
  unfold codeF
  have h : i = j + 1 ∨ i = j + 2 ∨ i = j + 3 := by omega
  intro z
  have e : ((i : Int) * (o + 26 * w)) = (j : Int) * (o + 26 * w) + ((i : Int) - j) * (o + 26 * w) := by rw [← Int.add_mul]; congr 1; omega
  rw [e] at z
  generalize (j : Int) * (o + 26 * w) = u at *
  rcases h with rfl | rfl | rfl
  · rw [show (((j + 1 : Nat) : Int) - j) = 1 by omega] at z; omega
  · rw [show (((j + 2 : Nat) : Int) - j) = 2 by omega] at z; omega
  · rw [show (((j + 3 : Nat) : Int) - j) = 3 by omega] at z; omega
/-- names by codes that differ -/
theorem names_nodup {ns : List Str} {cs : Nat → Int} (he : ∀ i x, ns[i]? = some x → Ends2 x (cs i)) (h0 : ∀ i, 0 ≤ cs i ∧ cs i < 676) (hd : ∀ i j, i < ns.length → j < i → cs i ≠ cs j) : ns.Nodup := by
  rw [List.nodup_iff_pairwise_ne, List.pairwise_iff_getElem]
  intro i j hi hj hij e
  have a := he i _ (List.getElem?_eq_getElem hi)
  have b := he j _ (List.getElem?_eq_getElem hj)
  rw [e] at a
  exact hd j i hj hij (b.inj a (h0 j).1 (h0 j).2 (h0 i).1 (h0 i).2)
/-! numbers -/
def numF (st sp : Int) (k : Nat) : Int := 1 + (st + (0 + (k : Int)) * sp) % 99991
theorem numF_rg {st sp : Int} {k : Nat} : 1 ≤ numF st sp k ∧ numF st sp k ≤ 99991 := by unfold numF; omega
theorem numF_ne {st sp : Int} (h1 : 1 ≤ sp) (h2 : sp ≤ 99990) {i j : Nat} (hi : i < 14) (hj : j < i) : numF st sp i ≠ numF st sp j := by
  unfold numF
  intro z
  have e : ((0 + (i : Int)) * sp) = (0 + (j : Int)) * sp + ((i : Int) - j) * sp := by rw [← Int.add_mul]; congr 1; omega
  rw [e] at z
  generalize (0 + (j : Int)) * sp = u at *
  obtain ⟨d, d1, d2, ed⟩ : ∃ d : Nat, 1 ≤ d ∧ d ≤ 13 ∧ (i : Int) - j = d := ⟨i - j, by omega, by omega, by omega⟩
  obtain ⟨w, ew⟩ : ∃ w : Nat, (w : Int) = sp := ⟨sp.toNat, by omega⟩
  rw [ed, ← ew] at z
  have hd : ((d * w : Nat) : Int) % 99991 = 0 := by
    rw [Int.natCast_mul]
    generalize (d : Int) * (w : Int) = q at *
    omega
  have hn : (99991 : Nat) ∣ d * w := by omega
  have hc : Nat.Coprime 99991 d := by
    have : d = 1 ∨ d = 2 ∨ d = 3 ∨ d = 4 ∨ d = 5 ∨ d = 6 ∨ d = 7 ∨ d = 8 ∨ d = 9 ∨ d = 10 ∨ d = 11 ∨ d = 12 ∨ d = 13 := by omega
    rcases this with rfl | rfl | rfl | rfl | rfl | rfl | rfl | rfl | rfl | rfl | rfl | rfl | rfl <;> decide +kernel
  have hw := hc.dvd_of_dvd_mul_left hn
  have := Nat.le_of_dvd (by omega) hw
  omega
theorem nums_nodup {st sp : Int} (h1 : 1 ≤ sp) (h2 : sp ≤ 99990) {m : Nat} (hm : m ≤ 14) : ((List.range m).map (numF st sp)).Nodup := by
  rw [List.nodup_iff_pairwise_ne, List.pairwise_iff_getElem]
  intro i j hi hj hij e
  simp at hi hj
  rw [List.getElem_map, List.getElem_map, List.getElem_range, List.getElem_range] at e
  exact numF_ne h1 h2 (by omega) hij e.symm
end BL
set_option maxHeartbeats 4000000
/-! plain data: corners left out where they lie straight -/
namespace BL
open PySem PySem.Spec PyProof.Rows L2 Evl
abbrev vx (c : Cr) : Rat := valp c.1
abbrev vy (c : Cr) : Rat := valp c.2
def CrG (c : Cr) : Prop := Gf 32 c.1 ∧ 0 ≤ c.1.1 ∧ Gf 32 c.2 ∧ 0 ≤ c.2.1
def ltC (a b : Cr) : Prop := a.1.1 * b.1.2 < b.1.1 * a.1.2
def StR (a b c : Cr) : Prop := (vy b - vy a) * (vx c - vx b) = (vy c - vy b) * (vx b - vx a)
theorem ltC_iff {a b : Cr} (ha : CrG a) (hb : CrG b) : ltC a b ↔ vx a < vx b := (val_lt ha.1.pos hb.1.pos).symm
theorem sub_cast {a b c d : Int} (h : 0 < b) (k : 0 < d) : ((c * b - a * d : Int) : Rat) = (val c d - val a b) * ((b * d : Int) : Rat) := by
  have h1 := cast_ne h
  have h2 := cast_ne k
  unfold val
  simp only [Rat.intCast_sub, Rat.intCast_mul]
  grind
theorem cast_inj {a b : Int} : (a : Rat) = (b : Rat) ↔ a = b := ⟨fun h => by exact_mod_cast h, fun h => by rw [h]⟩
theorem straight_iff {a b c : Cr} (ha : CrG a) (hb : CrG b) (hc : CrG c) : straightB a b c = true ↔ StR a b c := by
  have a1 := ha.1.pos
  have a2 := ha.2.2.1.pos
  have b1 := hb.1.pos
  have b2 := hb.2.2.1.pos
  have c1 := hc.1.pos
  have c2 := hc.2.2.1.pos
  unfold straightB StR
  simp only [decide_eq_true_eq]
  rw [← cast_inj]
  simp only [Rat.intCast_mul, sub_cast a1 b1, sub_cast a2 b2, sub_cast b1 c1, sub_cast b2 c2]
  have n1 := cast_ne a1
  have n2 := cast_ne a2
  have n3 := cast_ne b1
  have n4 := cast_ne b2
  have n5 := cast_ne c1
  have n6 := cast_ne c2
  show (vy b - vy a) * _ * ((vx c - vx b) * _) * _ * _ = (vy c - vy b) * _ * ((vx b - vx a) * _) * _ * _ ↔ _
  generalize vy b - vy a = r
  generalize vx c - vx b = f
  generalize vy c - vy b = m
  generalize vx b - vx a = u
  generalize ((a.1.2 : Int) : Rat) = p1 at *
  generalize ((a.2.2 : Int) : Rat) = p2 at *
  generalize ((b.1.2 : Int) : Rat) = p3 at *
  generalize ((b.2.2 : Int) : Rat) = p4 at *
  generalize ((c.1.2 : Int) : Rat) = p5 at *
  generalize ((c.2.2 : Int) : Rat) = p6 at *
  have e1 : r * (p2 * p4) * (f * (p3 * p5)) * (p1 * p3) * (p4 * p6) = (r * f) * (p1 * p2 * p3 * p3 * p4 * p4 * p5 * p6) := by grind
  have e2 : m * (p4 * p6) * (u * (p1 * p3)) * (p3 * p5) * (p2 * p4) = (m * u) * (p1 * p2 * p3 * p3 * p4 * p4 * p5 * p6) := by grind
  rw [e1, e2]
  have hn : p1 * p2 * p3 * p3 * p4 * p4 * p5 * p6 ≠ 0 := by grind
  constructor
  · intro h; grind
  · intro h; rw [h]
def slp (a b : Cr) : Fr := overF (minusF b.2 a.2) (minusF b.1 a.1)
theorem run_pos {a b : Cr} (ha : CrG a) (hb : CrG b) (h : ltC a b) : 0 < (minusF b.1 a.1).1 := by
  have hd := minusF_pos hb.1.pos ha.1.pos
  rw [← val_pos hd, show val (minusF b.1 a.1).1 (minusF b.1 a.1).2 = _ from minusF_val hb.1.pos ha.1.pos]
  have := (ltC_iff ha hb).mp h
  grind
theorem slp_val {a b : Cr} (ha : CrG a) (hb : CrG b) (h : ltC a b) : valp (slp a b) = (vy b - vy a) / (vx b - vx a) := by
  unfold slp
  rw [overF_val (minusF_pos hb.2.2.1.pos ha.2.2.1.pos) (minusF_pos hb.1.pos ha.1.pos) (run_pos ha hb h), minusF_val hb.2.2.1.pos ha.2.2.1.pos, minusF_val hb.1.pos ha.1.pos]
theorem pair_val {x y : Fr} (hx : Fvp x) (hy : Fvp y) : x = y ↔ valp x = valp y := by
  constructor
  · intro h; rw [h]
  · intro h
    have := (val_eq hx.ps hy.ps).mp h
    obtain ⟨a, b⟩ := fv_eq hx hy this
    exact Prod.ext a b
theorem slp_fv {a b : Cr} (ha : CrG a) (hb : CrG b) (h : ltC a b) : Fvp (slp a b) := lowF_fv (Int.mul_pos (minusF_pos hb.2.2.1.pos ha.2.2.1.pos) (run_pos ha hb h))
theorem slp_eq {a b c : Cr} (ha : CrG a) (hb : CrG b) (hc : CrG c) (h : ltC a b) (k : ltC b c) : slp a b = slp b c ↔ StR a b c := by
  rw [pair_val (slp_fv ha hb h) (slp_fv hb hc k), slp_val ha hb h, slp_val hb hc k]
  have h1 := (ltC_iff ha hb).mp h
  have h2 := (ltC_iff hb hc).mp k
  unfold StR
  have n1 : vx b - vx a ≠ 0 := by grind
  have n2 : vx c - vx b ≠ 0 := by grind
  generalize vx b - vx a = p at *
  generalize vx c - vx b = q at *
  generalize vy b - vy a = r at *
  generalize vy c - vy b = s at *
  constructor
  · intro z; grind
  · intro z; grind
/-- straight on behind a corner that lies straight -/
theorem st_on {p f m h : Cr} (h1 : vx p < vx f) (h2 : vx f < vx m) (h3 : vx m < vx h) (s1 : StR f m h) (s2 : StR p f h) : StR p f m := by
  unfold StR at *
  have e1 : vx h - vx f = (vx m - vx f) + (vx h - vx m) := by grind
  have e2 : vy h - vy f = (vy m - vy f) + (vy h - vy m) := by grind
  rw [e1, e2] at s2
  have d : (vx m - vx f) + (vx h - vx m) ≠ 0 := by grind
  generalize vx m - vx f = D at *
  generalize vx h - vx m = F at *
  generalize vy m - vy f = C at *
  generalize vy h - vy m = E at *
  generalize vx f - vx p = B at *
  generalize vy f - vy p = A at *
  have e3 : (A * D) * (D + F) = (C * B) * (D + F) := by
    have : A * D * (D + F) = (C + E) * B * D := by grind
    grind
  grind
/-! the corners that stay -/
def plainStep (cs fs : List Cr) (k : Nat) : List Cr := if k + 1 < cs.length ∧ slp (crAt fs (fs.length - 1)) (crAt cs k) = slp (crAt cs k) (crAt cs (k + 1)) then fs else fs ++ [crAt cs k]
def plainAt (cs : List Cr) : Nat → List Cr
  | 0 => cs.take 1
  | n + 1 => plainStep cs (plainAt cs n) (n + 1)
def plainF (cs : List Cr) : List Cr := plainAt cs (cs.length - 1)
structure CsG (cs : List Cr) : Prop where
  l1 : 2 ≤ cs.length
  l2 : cs.length ≤ 12
  cr : ∀ c ∈ cs, CrG c
  up : ∀ i j, i < j → j < cs.length → ltC (crAt cs i) (crAt cs j)
theorem crAt_at {s : Sp} {i : Nat} (hi : i < s.length) : s[i]? = some (crAt s i) := by unfold crAt; rw [List.getElem?_eq_getElem hi, List.getD_eq_getElem?_getD, List.getElem?_eq_getElem hi]; rfl
theorem crAt_mem {s : Sp} {i : Nat} (hi : i < s.length) : crAt s i ∈ s := List.mem_of_getElem? (crAt_at hi)
theorem crAt_snoc_l {s : Sp} {z : Cr} {i : Nat} (hi : i < s.length) : crAt (s ++ [z]) i = crAt s i := by
  unfold crAt
  rw [List.getD_eq_getElem?_getD, List.getD_eq_getElem?_getD, List.getElem?_append_left hi]
theorem crAt_snoc {s : Sp} {z : Cr} : crAt (s ++ [z]) s.length = z := by
  unfold crAt
  rw [List.getD_eq_getElem?_getD, List.getElem?_append_right (Nat.le_refl _), Nat.sub_self]
  rfl
/-- what holds ahead of the k-th corner -/
structure PI (cs fs : List Cr) (k : Nat) : Prop where
  l1 : 1 ≤ fs.length
  l2 : fs.length ≤ k
  mem : ∀ c ∈ fs, c ∈ cs
  hd : crAt fs 0 = crAt cs 0
  la : ∃ j, j < k ∧ crAt fs (fs.length - 1) = crAt cs j
  up : ∀ i, i + 1 < fs.length → ltC (crAt fs i) (crAt fs (i + 1))
  ben : ∀ i, i + 2 < fs.length → ¬ StR (crAt fs i) (crAt fs (i + 1)) (crAt fs (i + 2))
  nx : k < cs.length → 2 ≤ fs.length → ¬ StR (crAt fs (fs.length - 2)) (crAt fs (fs.length - 1)) (crAt cs k)
  en : k = cs.length → crAt fs (fs.length - 1) = crAt cs (cs.length - 1)
theorem pi_step {cs fs : List Cr} {k : Nat} (h : CsG cs) (hk : k < cs.length) (q : PI cs fs k) : PI cs (plainStep cs fs k) (k + 1) := by
  obtain ⟨j, hj, ej⟩ := q.la
  have gk := h.cr _ (crAt_mem hk)
  have gj := h.cr _ (crAt_mem (show j < cs.length by omega))
  have ujk := h.up j k hj hk
  have l1 := q.l1
  have l2 := q.l2
  unfold plainStep
  split
  · rename_i hc
    obtain ⟨hc1, hc2⟩ := hc
    have gn := h.cr _ (crAt_mem hc1)
    have ukn := h.up k (k + 1) (by omega) hc1
    rw [ej] at hc2
    have st := (slp_eq gj gk gn ujk ukn).mp hc2
    refine ⟨q.l1, by omega, q.mem, q.hd, ⟨j, by omega, ej⟩, q.up, q.ben, fun _ h2 z => ?_, fun e => by omega⟩
    have gp := h.cr _ (q.mem _ (crAt_mem (show fs.length - 2 < fs.length by omega)))
    have upf := q.up (fs.length - 2) (by omega)
    rw [show fs.length - 2 + 1 = fs.length - 1 by omega, ej] at upf
    rw [ej] at z
    have n := q.nx hk h2
    rw [ej] at n
    exact n (st_on ((ltC_iff gp gj).mp upf) ((ltC_iff gj gk).mp ujk) ((ltC_iff gk gn).mp ukn) st z)
  · rename_i hc
    have el : (fs ++ [crAt cs k]).length = fs.length + 1 := by simp
    refine ⟨by omega, by omega, fun c hcm => ?_, ?_, ⟨k, by omega, ?_⟩, fun i hi => ?_, fun i hi => ?_, fun hk2 _ z => ?_, fun e => ?_⟩
    · rcases List.mem_append.mp hcm with hcm | hcm
      · exact q.mem c hcm
      · rw [List.mem_singleton.mp hcm]; exact crAt_mem hk
    · rw [crAt_snoc_l (by omega)]; exact q.hd
    · rw [el, Nat.add_sub_cancel, crAt_snoc]
    · by_cases hi2 : i + 1 < fs.length
      · rw [crAt_snoc_l (by omega), crAt_snoc_l hi2]; exact q.up i hi2
      · have e : i + 1 = fs.length := by omega
        rw [e, crAt_snoc, crAt_snoc_l (by omega), show i = fs.length - 1 by omega, ej]
        exact ujk
    · by_cases hi2 : i + 2 < fs.length
      · rw [crAt_snoc_l (by omega), crAt_snoc_l (by omega), crAt_snoc_l hi2]; exact q.ben i hi2
      · have e : i + 2 = fs.length := by omega
        rw [e, crAt_snoc, crAt_snoc_l (by omega), crAt_snoc_l (by omega), show i = fs.length - 2 by omega, show fs.length - 2 + 1 = fs.length - 1 by omega]
        exact q.nx hk (by omega)
    · rw [el, Nat.add_sub_cancel, crAt_snoc, show fs.length + 1 - 2 = fs.length - 1 by omega, crAt_snoc_l (by omega), ej] at z
      have gn := h.cr _ (crAt_mem hk2)
      have ukn := h.up k (k + 1) (by omega) hk2
      rw [← slp_eq gj gk gn ujk ukn] at z
      exact hc ⟨hk2, by rw [ej]; exact z⟩
    · rw [el, Nat.add_sub_cancel, crAt_snoc, ← e]
      rfl
theorem pi_at {cs : List Cr} (h : CsG cs) : ∀ n, n < cs.length → PI cs (plainAt cs n) (n + 1)
  | 0, _ => by
    have l1 := h.l1
    have e : plainAt cs 0 = [crAt cs 0] := by
      show cs.take 1 = _
      cases cs with
      | nil => simp at l1
      | cons c cs => rfl
    rw [e]
    refine ⟨by simp, by simp, fun c hc => ?_, rfl, ⟨0, by omega, rfl⟩, fun i hi => ?_, fun i hi => ?_, fun _ h2 => ?_, fun e => by omega⟩
    · rw [List.mem_singleton.mp hc]; exact crAt_mem (by omega)
    · simp at hi
    · simp at hi
    · simp at h2
  | n + 1, hn => pi_step h hn (pi_at h n (by omega))
theorem plain_good {cs : List Cr} {m : Int} (h : CsG cs) (h0 : (crAt cs 0).1 = (0, 1)) (h1 : (crAt cs (cs.length - 1)).1 = (m, 1)) : GSp m (plainF cs) := by
  have l1 := h.l1
  have l2 := h.l2
  have q := pi_at h (cs.length - 1) (by omega)
  rw [show cs.length - 1 + 1 = cs.length by omega] at q
  unfold plainF
  generalize plainAt cs (cs.length - 1) = fs at *
  have en := q.en rfl
  have f1 := q.l1
  have f2 := q.l2
  have cg : ∀ c ∈ fs, CrG c := fun c hc => h.cr c (q.mem c hc)
  have ge : ∀ {i : Nat} {a : Cr}, fs[i]? = some a → i < fs.length ∧ a = crAt fs i := fun {i a} e => by
    have hi := (List.getElem?_eq_some_iff.mp e).1
    rw [crAt_at hi] at e
    exact ⟨hi, (Option.some.inj e).symm⟩
  refine ⟨?_, by omega, cg, fun i a b ha hb => ?_, fun i a b c ha hb hc => ?_, ⟨(crAt fs 0).2, ?_⟩, ⟨(crAt fs (fs.length - 1)).2, ?_⟩⟩
  · refine Nat.lt_of_not_le fun z => ?_
    have e : fs.length - 1 = 0 := by omega
    rw [e, q.hd] at en
    have u := h.up 0 (cs.length - 1) (by omega) (by omega)
    rw [← en] at u
    exact absurd u (Int.lt_irrefl _)
  · obtain ⟨hi, rfl⟩ := ge ha
    obtain ⟨hi2, rfl⟩ := ge hb
    exact q.up i hi2
  · obtain ⟨hi, rfl⟩ := ge ha
    obtain ⟨hi2, rfl⟩ := ge hb
    obtain ⟨hi3, rfl⟩ := ge hc
    have n := q.ben i hi3
    rw [← straight_iff (cg _ (crAt_mem hi)) (cg _ (crAt_mem hi2)) (cg _ (crAt_mem hi3))] at n
    simpa using n
  · rw [crAt_at (by omega), q.hd, ← h0]
  · rw [crAt_at (by omega), en, ← h1]
end BL
set_option maxHeartbeats 4000000
/-! plain data: the moment grows with the place -/
namespace BL
open PySem PySem.Spec PyProof.Rows L2 Evl
theorem val_one {i : Int} : val i 1 = (i : Rat) := by unfold val; grind
theorem cast_le {a b : Int} (h : a ≤ b) : (a : Rat) ≤ (b : Rat) := by exact_mod_cast h
theorem cast_nn {a : Int} (h : 0 ≤ a) : (0 : Rat) ≤ (a : Rat) := by exact_mod_cast h
theorem low_val2 {k m : Int} (h : 0 < m) : valp (lowF k m) * (m : Rat) = (k : Rat) := by
  rw [val_low h]
  have := cast_ne h
  unfold val
  grind
theorem sg_pos {s : Sg} (h : GSg s) : 0 < valp s.first ∧ 0 < valp s.last ∧ 0 < s.first.2 ∧ 0 < s.last.2 ∧ 0 < s.many := ⟨(val_pos h.f.pos).mpr h.f0, (val_pos h.l.pos).mpr h.l0, h.f.pos, h.l.pos, by have := h.m1; omega⟩
theorem sumF_val {s : Sg} {k : Int} (h : GSg s) : valp (sumF s k) = (valp s.first + (valp s.first + (valp s.last - valp s.first) * valp (lowF k s.many))) * valp (lowF k 2) := by
  obtain ⟨_, _, a, b, c⟩ := sg_pos h
  unfold sumF lineF
  rw [timesF_val (plusF_pos a (partF_pos a b (lowF_pos c))) (lowF_pos (by decide)), plusF_val a (partF_pos a b (lowF_pos c)), partF_val a b (lowF_pos c)]
theorem sumF_pos {s : Sg} {k : Int} (h : GSg s) : 0 < (sumF s k).2 := by
  obtain ⟨_, _, a, b, c⟩ := sg_pos h
  exact timesF_pos (plusF_pos a (partF_pos a b (lowF_pos c))) (lowF_pos (by decide))
/-- between two that are not below nought -/
theorem mix_nn {f l u : Rat} (hf : 0 ≤ f) (hl : 0 ≤ l) (h0 : 0 ≤ u) (h1 : u ≤ 1) : 0 ≤ f * (1 - u) + l * u := by
  have a := Rat.mul_nonneg hf (show (0 : Rat) ≤ 1 - u by grind)
  have b := Rat.mul_nonneg hl h0
  grind
theorem sum_mono {s : Sg} {a b : Int} (h : GSg s) (h0 : 0 ≤ a) (h1 : a ≤ b) (h2 : b ≤ s.many) : valp (sumF s a) ≤ valp (sumF s b) := by
  obtain ⟨hf, hl, _, _, hm⟩ := sg_pos h
  rw [sumF_val h, sumF_val h]
  have ea := low_val2 (k := a) hm
  have eb := low_val2 (k := b) hm
  have e2 := low_val2 (k := a) (m := 2) (by decide)
  have e3 := low_val2 (k := b) (m := 2) (by decide)
  have ca := cast_nn h0
  have cab := cast_le h1
  have cbm := cast_le h2
  have cm := cast_pos hm
  generalize valp (lowF a s.many) = xa at *
  generalize valp (lowF b s.many) = xb at *
  generalize valp (lowF a 2) = ya at *
  generalize valp (lowF b 2) = yb at *
  generalize valp s.first = f at *
  generalize valp s.last = l at *
  generalize ((a : Int) : Rat) = A at *
  generalize ((b : Int) : Rat) = B at *
  generalize ((s.many : Int) : Rat) = m at *
  have e2' : ya = A / 2 := by grind
  have e3' : yb = B / 2 := by grind
  have ea' : xa = A / m := by grind
  have eb' : xb = B / m := by grind
  have u0 : 0 ≤ (A + B) / (2 * m) := by
    have e : (A + B) / (2 * m) * (2 * m) = A + B := by grind
    refine Rat.le_of_mul_le_mul_right (c := 2 * m) ?_ (by grind)
    rw [e]
    grind
  have u1 : (A + B) / (2 * m) ≤ 1 := by
    have e : (A + B) / (2 * m) * (2 * m) = A + B := by grind
    refine Rat.le_of_mul_le_mul_right (c := 2 * m) ?_ (by grind)
    rw [e]
    grind
  have key := Rat.mul_nonneg (show (0 : Rat) ≤ B - A by grind) (mix_nn (Rat.le_of_lt hf) (Rat.le_of_lt hl) u0 u1)
  have ed : (f + (f + (l - f) * xb)) * yb - (f + (f + (l - f) * xa)) * ya = (B - A) * (f * (1 - (A + B) / (2 * m)) + l * ((A + B) / (2 * m))) := by
    subst e2' e3' ea' eb'
    grind
  grind
theorem lengthF_nn : ∀ {ss : List Sg} {r : Fr} {k : Int}, (∀ s ∈ ss, GSg s) → 0 < r.2 → 0 ≤ valp r → 0 ≤ k → 0 < (lengthF ss r k).2 ∧ 0 ≤ valp (lengthF ss r k)
  | [], r, k, _, h2, h3, _ => ⟨h2, h3⟩
  | s :: ss, r, k, h, h2, h3, h0 => by
    have hs := h s (by simp)
    obtain ⟨hf, hl, a, b, hm⟩ := sg_pos hs
    unfold lengthF
    split
    · rename_i hk
      have hp : 0 < 2 * s.many := by omega
      refine ⟨partF_pos a b (lowF_pos hp), ?_⟩
      rw [partF_val a b (lowF_pos hp)]
      have e := low_val2 (k := 2 * k + 1) hp
      have c1 := cast_nn (show 0 ≤ 2 * k + 1 by omega)
      have c2 := cast_le (show 2 * k + 1 ≤ 2 * s.many by omega)
      have c3 := cast_pos hp
      generalize valp (lowF (2 * k + 1) (2 * s.many)) = u at *
      generalize ((2 * k + 1 : Int) : Rat) = A at *
      generalize ((2 * s.many : Int) : Rat) = m at *
      have u0 : 0 ≤ u := by
        refine Rat.le_of_mul_le_mul_right (c := m) ?_ c3
        grind
      have u1 : u ≤ 1 := by
        refine Rat.le_of_mul_le_mul_right (c := m) ?_ c3
        grind
      have := mix_nn (Rat.le_of_lt hf) (Rat.le_of_lt hl) u0 u1
      grind
    · exact lengthF_nn (fun t ht => h t (by simp [ht])) h2 h3 (by omega)
theorem momGo_mono {r : Rat} (hr : 0 ≤ r) : ∀ {ss : List Sg} {k k' : Int} {tot tot' : Fr}, (∀ s ∈ ss, GSg s) → 0 < tot.2 → 0 < tot'.2 → valp tot ≤ valp tot' → 0 ≤ k → k ≤ k' →
    0 < (momGo ss k tot).1.2 ∧ 0 < (momGo ss k' tot').1.2 ∧ valp (momGo ss k tot).1 + r * ((momGo ss k tot).2 : Rat) ≤ valp (momGo ss k' tot').1 + r * ((momGo ss k' tot').2 : Rat)
  | [], k, k', tot, tot', _, h1, h2, h3, _, h5 => by
    refine ⟨h1, h2, ?_⟩
    show valp tot + r * (k : Rat) ≤ valp tot' + r * (k' : Rat)
    have := Rat.mul_le_mul_of_nonneg_left (cast_le h5) hr
    grind
  | s :: ss, k, k', tot, tot', h, h1, h2, h3, h4, h5 => by
    have hs := h s (by simp)
    have hm := (sg_pos hs).2.2.2.2
    unfold momGo
    refine momGo_mono hr (fun t ht => h t (by simp [ht])) (plusF_pos h1 (sumF_pos hs)) (plusF_pos h2 (sumF_pos hs)) ?_ ?_ ?_
    · rw [plusF_val h1 (sumF_pos hs), plusF_val h2 (sumF_pos hs)]
      have := sum_mono (a := minI k s.many) (b := minI k' s.many) hs (by unfold minI; split <;> omega) (by unfold minI; split <;> split <;> omega) (by unfold minI; split <;> omega)
      grind
    · unfold maxI; split <;> omega
    · unfold maxI; split <;> split <;> omega
theorem momF_mono {t : Tm} {x : Fr} {a : Int} (h : GTm t) (ha : 0 ≤ a) (hx : 0 < x.2) (hl : a * x.2 ≤ x.1) : valp (momF t (a, 1)) ≤ valp (momF t x) ∧ 0 < (momF t (a, 1)).2 ∧ 0 < (momF t x).2 := by
  have hk : a ≤ x.1 / x.2 := (Int.le_ediv_iff_mul_le hx).mpr hl
  have r0 := h.r.pos
  have rv := Rat.le_of_lt ((val_pos r0).mpr h.r0)
  have e1 : a / 1 = a := Int.ediv_one a
  obtain ⟨l1, l2⟩ := lengthF_nn (k := a) h.sg r0 rv ha
  obtain ⟨l3, l4⟩ := lengthF_nn (k := x.1 / x.2) h.sg r0 rv (by omega)
  have o : (0 : Int) < 1 := by decide
  have t1 : valp (timesF (lengthF t.sts t.rest a) (minusF (a, 1) (a, 1))) = 0 := by
    rw [timesF_val l1 (minusF_pos o o), minusF_val o o]
    grind
  have t2 : 0 ≤ valp (timesF (lengthF t.sts t.rest (x.1 / x.2)) (minusF x (x.1 / x.2, 1))) := by
    rw [timesF_val l3 (minusF_pos hx o), minusF_val hx o]
    refine Rat.mul_nonneg l4 ?_
    have e : val (x.1 / x.2) 1 = ((x.1 / x.2 : Int) : Rat) := val_one
    show 0 ≤ valp x - val (x.1 / x.2) 1
    rw [e]
    have c1 := cast_le (Int.ediv_mul_le x.1 (show x.2 ≠ 0 by omega))
    rw [Rat.intCast_mul] at c1
    have c2 := cast_pos hx
    have e3 : valp x * (x.2 : Rat) = (x.1 : Rat) := by show val x.1 x.2 * _ = _; unfold val; have := cast_ne hx; grind
    have : ((x.1 / x.2 : Int) : Rat) ≤ valp x := by
      refine Rat.le_of_mul_le_mul_right (c := (x.2 : Rat)) ?_ c2
      rw [e3]
      exact c1
    grind
  obtain ⟨p1, p2, p3⟩ := momGo_mono rv h.sg (timesF_pos l1 (minusF_pos o o)) (timesF_pos l3 (minusF_pos hx o)) (show valp (timesF (lengthF t.sts t.rest a) (minusF (a, 1) (a, 1))) ≤ valp (timesF (lengthF t.sts t.rest (x.1 / x.2)) (minusF x (x.1 / x.2, 1))) by rw [t1]; exact t2) ha hk
  have q1 : valp (momF t (a, 1)) = valp (momGo t.sts a (timesF (lengthF t.sts t.rest a) (minusF (a, 1) (a, 1)))).1 + valp t.rest * ((momGo t.sts a (timesF (lengthF t.sts t.rest a) (minusF (a, 1) (a, 1)))).2 : Rat) := by
    unfold momF
    simp only [e1]
    rw [plusF_val p1 (timesF_pos r0 o), timesF_val r0 o]
    congr 2
    exact val_one
  have q2 : valp (momF t x) = valp (momGo t.sts (x.1 / x.2) (timesF (lengthF t.sts t.rest (x.1 / x.2)) (minusF x (x.1 / x.2, 1)))).1 + valp t.rest * ((momGo t.sts (x.1 / x.2) (timesF (lengthF t.sts t.rest (x.1 / x.2)) (minusF x (x.1 / x.2, 1)))).2 : Rat) := by
    unfold momF
    simp only
    rw [plusF_val p2 (timesF_pos r0 o), timesF_val r0 o]
    congr 2
    exact val_one
  refine ⟨by rw [q1, q2]; exact p3, ?_, ?_⟩
  · unfold momF
    simp only [e1]
    exact plusF_pos p1 (timesF_pos r0 o)
  · unfold momF
    exact plusF_pos p2 (timesF_pos r0 o)
/-- what sounds at a covered place is not ahead of the take -/
theorem contF_nn {t : Tm} {p : Pc} {x : Fr} (ht : GTm t) (h : GPc p) (hx : 0 < x.2) (hv : coversB p x = true) : 0 ≤ (contF t p x).1 := by
  have o : (0 : Int) < 1 := by decide
  have hl : p.at_ * x.2 ≤ x.1 := by
    unfold coversB lessB at hv
    simp at hv
    omega
  obtain ⟨m1, m2, m3⟩ := momF_mono ht h.a1 hx hl
  have hg : 0 < (goneF t p x).2 ∧ 0 ≤ valp (goneF t p x) := by
    unfold goneF
    split
    · refine ⟨minusF_pos hx o, ?_⟩
      rw [minusF_val hx o]
      have e : val p.at_ 1 = (p.at_ : Rat) := val_one
      show 0 ≤ valp x - val p.at_ 1
      rw [e]
      have c1 := cast_le hl
      rw [Rat.intCast_mul] at c1
      have c2 := cast_pos hx
      have e3 : valp x * (x.2 : Rat) = (x.1 : Rat) := by show val x.1 x.2 * _ = _; unfold val; have := cast_ne hx; grind
      have : (p.at_ : Rat) ≤ valp x := by
        refine Rat.le_of_mul_le_mul_right (c := (x.2 : Rat)) ?_ c2
        rw [e3]
        exact c1
      grind
    · refine ⟨minusF_pos m3 m2, ?_⟩
      rw [minusF_val m3 m2]
      grind
  have e : valp (contF t p x) = valp p.start + valp p.speed * valp (goneF t p x) := by
    unfold contF
    rw [plusF_val h.st.pos (timesF_pos h.sp.pos hg.1), timesF_val h.sp.pos hg.1]
  have a := (val_nn h.st.pos).mpr h.st0
  have b := Rat.mul_nonneg (Rat.le_of_lt ((val_pos h.sp.pos).mpr h.sp0)) hg.2
  have hp : 0 < (contF t p x).2 := plusF_pos h.st.pos (timesF_pos h.sp.pos hg.1)
  rw [← val_nn hp, show val (contF t p x).1 (contF t p x).2 = _ from e]
  have a' : 0 ≤ valp p.start := a
  grind
end BL
set_option maxHeartbeats 4000000
/-! Foundation, part 12: new lists in places of expressions, comprehensions that draw -/
namespace BL
open PySem PySem.Spec PyProof.Rows L2 Evl
section
variable {T : Tb} {X : Cx} {ρ : Rho} {M : Mem} {es : List Expr} {ds : List Dt} {pos : Pos}
theorem we_newL {Ψ : Dt → Mem → Prop} (h : AD T X es ρ ds) (k : ∀ q, Ψ (.adr q) (M ++ [(q, .lst ds)])) (hl : ds.length ≤ sizeLine := by exact Nat.le_of_ble_eq_true rfl) : WE T X (.List es pos) ρ M Ψ := fun F H σ Q f s m kk =>
  PE_w (pe_lst pa_w) (h F H σ _ f s fun vs F1 H1 f1 s1 r1 => ⟨by rw [r1.length]; exact hl, fun p hp => by
    have q0 := Reach.pure m f1 s1
    exact kk _ _ _ _ _ (k p) (q0.trans (reach_new f1 q0.mem hp ⟨vs, upd_same, r1⟩)) (rp_adr.mpr rfl)⟩)
theorem atI_li {f : Int → Dt} {ss : List Int} {v : Int} (h0 : 0 ≤ v) (h : v < ss.length) : atI (ss.map f) v = some (f (ss.getD v.toNat 0)) := by
  have hl : v.toNat < ss.length := by omega
  rw [List.getD_eq_getElem?_getD, List.getElem?_eq_getElem hl]
  exact atI_map (j := v.toNat) (by omega) (List.getElem?_eq_getElem hl)
theorem getD_memI {ss : List Int} {v : Int} (h0 : 0 ≤ v) (h : v < ss.length) : ss.getD v.toNat 0 ∈ ss := by
  have hl : v.toNat < ss.length := by omega
  rw [List.getD_eq_getElem?_getD, List.getElem?_eq_getElem hl]
  exact List.getElem_mem hl
theorem atI_ls {f : Str → Dt} {ss : List Str} {v : Int} (h0 : 0 ≤ v) (h : v < ss.length) : atI (ss.map f) v = some (f (ss.getD v.toNat "")) := by
  have hl : v.toNat < ss.length := by omega
  rw [List.getD_eq_getElem?_getD, List.getElem?_eq_getElem hl]
  exact atI_map (j := v.toNat) (by omega) (List.getElem?_eq_getElem hl)
theorem getD_memS {ss : List Str} {v : Int} (h0 : 0 ≤ v) (h : v < ss.length) : ss.getD v.toNat "" ∈ ss := by
  have hl : v.toNat < ss.length := by omega
  rw [List.getD_eq_getElem?_getD, List.getElem?_eq_getElem hl]
  exact List.getElem_mem hl
/-- [e for x in xs], each turn drawing: Pv i acc k' -/
theorem we_lcP {α : Type} {xs : List α} {f : α → Dt} {Φ : Dt → Mem → Prop} {iter elt : Expr} {scope : Scope} {x : Str} {j : Nat} {px : Pos} {q : Addr} {rest : Mem} {k : Nat} (Pv : Nat → List Dt → Nat → Prop) (hi : IW T X (.Name x px) iter ρ ((q, .pen k) :: rest) fun ds M' => ds = xs.map f ∧ ∃ k', M' = (q, .pen k') :: rest ∧ Pv 0 [] k')
    (hc : X.calm = true) (hN : X.N.Nodup) (ok : BlkOk X.N X.env.scope scope [(x, j)]) (hg : PGB X scope x px j) (hl : xs.length ≤ 100000)
    (he : ∀ i a acc k', xs[i]? = some a → acc.length = i → Pv i acc k' → ∀ s H C cl fp, WE T (X.blk s H scope (compEnvC scope cl C X.env) fp) elt ((ρ.set j none).set j (some (f a))) ((q, .pen k') :: rest) fun y M3 => ∃ k3, M3 = (q, .pen k3) :: rest ∧ Pv (i + 1) (acc ++ [y]) k3)
    (hd : ∀ acc k', acc.length = xs.length → Pv xs.length acc k' → Φ (.lst acc) ((q, .pen k') :: rest)) (hs : ∀ x, foldedSetIterable iter X.env x = pure x := by intro _; rfl) : WE T X (.ListComp elt [⟨.Name x px, iter, [], 0⟩] scope pos) ρ ((q, .pen k) :: rest) Φ :=
  we_lc hc hN hi ok hg (fun ds M1 ⟨e1, k1, e2, p0⟩ => by
    subst e1 e2
    refine ⟨fun i acc M' => acc.length = i ∧ i ≤ xs.length ∧ ∃ k', M' = (q, .pen k') :: rest ∧ Pv i acc k', ⟨rfl, Nat.zero_le _, k1, rfl, p0⟩, ?_, ?_⟩
    · rintro i d acc M' hd' ⟨hi', hi2, k', rfl, pv⟩
      obtain ⟨a, h1, rfl⟩ := getD_map (g := f) hd'
      have hil : i < xs.length := (List.getElem?_eq_some_iff.mp h1).1
      refine ⟨by have : sizeLine = 2 ^ 24 := rfl; omega, fun B hB => wts_nil ?_⟩
      rw [if_pos rfl]
      intro B2 hB2
      obtain ⟨s, H, C, cl, fp, rfl⟩ := hB2.is_
      refine (he i a acc k' h1 hi' pv s H C cl fp).mono fun y M3 ⟨k3, e3, p3⟩ => ⟨by rw [List.length_append, hi']; rfl, hil, k3, e3, p3⟩
    · rintro acc M' ⟨hl2, _, k', rfl, pv⟩
      rw [List.length_map] at hl2 pv
      exact hd acc k' hl2 pv) hs
end
end BL
set_option maxHeartbeats 4000000
/-! plain data: tables of ints; the runs of a lane -/
namespace BL
open PySem PySem.Spec PyProof.Rows L2 Evl
abbrev KI := List (Int × Int)
def valI (kvs : KI) (k : Int) : Option Int := (kvs.find? fun p => decide (p.1 = k)).map (·.2)
def putI (kvs : KI) (k v : Int) : KI := if (kvs.any fun p => decide (p.1 = k)) = true then kvs.map (fun p => if p.1 = k then (p.1, v) else p) else kvs ++ [(k, v)]
def mergeI (kvs more : KI) : KI := more.foldl (fun acc p => putI acc p.1 p.2) kvs
theorem inl_eq {a b : Int} : (decide ((Sum.inl a : Key) = Sum.inl b)) = decide (a = b) := by simp
theorem kvI_val {k : Int} : ∀ {kvs : KI}, valV (kvI kvs) (Sum.inl k) = (valI kvs k).map V.int
  | [] => rfl
  | p :: r => by
    have ih := kvI_val (k := k) (kvs := r)
    show valV ((Sum.inl p.1, V.int p.2) :: kvI r) _ = _
    unfold valI
    by_cases h : p.1 = k
    · rw [valV_pos (by rw [h]), List.find?_cons, decide_eq_true h]
      rfl
    · rw [valV_neg (fun z => h (Sum.inl.inj z)), List.find?_cons, decide_eq_false h]
      exact ih
theorem kvI_any {k : Int} {kvs : KI} : ((kvI kvs).any fun kv => decide (kv.1 = Sum.inl k)) = kvs.any fun p => decide (p.1 = k) := by
  unfold kvI
  rw [List.any_map]
  congr 1
  funext p
  exact inl_eq
theorem kvI_put {k v : Int} {kvs : KI} : kvI (putI kvs k v) = putK (kvI kvs) (Sum.inl k) (V.int v) := by
  unfold putI putK
  rw [kvI_any]
  split
  · unfold kvI
    rw [List.map_map, List.map_map]
    refine List.map_congr_left fun p _ => ?_
    show (Sum.inl (if p.1 = k then (p.1, v) else p).1, V.int (if p.1 = k then (p.1, v) else p).2) = (if (Sum.inl p.1 : Key) = Sum.inl k then (Sum.inl p.1, V.int v) else (Sum.inl p.1, V.int p.2))
    by_cases h : p.1 = k
    · rw [if_pos h, if_pos (by rw [h])]
    · rw [if_neg h, if_neg (fun z => h (Sum.inl.inj z))]
  · unfold kvI
    rw [List.map_append]
    rfl
theorem kvI_merge : ∀ {more kvs : KI}, kvI (mergeI kvs more) = mergeK (kvI kvs) (kvI more)
  | [], _ => rfl
  | p :: r, kvs => by
    show kvI (mergeI (putI kvs p.1 p.2) r) = mergeK (putK (kvI kvs) (Sum.inl p.1) (V.int p.2)) (kvI r)
    rw [kvI_merge, kvI_put]
theorem kvI_len {kvs : KI} : (kvI kvs).length = kvs.length := List.length_map ..
theorem putI_len {k v : Int} {kvs : KI} : (putI kvs k v).length ≤ kvs.length + 1 := by
  unfold putI
  split
  · rw [List.length_map]; omega
  · simp
theorem mergeI_len : ∀ {more kvs : KI}, (mergeI kvs more).length ≤ kvs.length + more.length
  | [], _ => by simp [mergeI]
  | p :: r, kvs => by
    have h1 := mergeI_len (more := r) (kvs := putI kvs p.1 p.2)
    have h2 := putI_len (k := p.1) (v := p.2) (kvs := kvs)
    show (mergeI (putI kvs p.1 p.2) r).length ≤ _
    rw [List.length_cons]
    omega
theorem valI_iff {kvs : KI} {k : Int} : (valI kvs k).isSome = true ↔ k ∈ kvs.map (·.1) := by
  unfold valI
  rw [Option.isSome_map, List.find?_isSome, List.mem_map]
  constructor
  · rintro ⟨p, h1, h2⟩
    exact ⟨p, h1, by simpa using h2⟩
  · rintro ⟨p, h1, h2⟩
    exact ⟨p, h1, by simpa using h2⟩
theorem valI_put {kvs : KI} {k j v : Int} : valI (putI kvs k v) j = if j = k then some v else valI kvs j := by
  have h := valV_put (kvI kvs) (Sum.inl k) (Sum.inl j) (V.int v)
  rw [← kvI_put, kvI_val, kvI_val] at h
  by_cases e : j = k
  · rw [if_pos e]
    rw [if_pos (by rw [e])] at h
    cases q : valI (putI kvs k v) j with
    | none => rw [q] at h; cases h
    | some x => rw [q] at h; cases h; rfl
  · rw [if_neg e]
    rw [if_neg (fun z => e (Sum.inl.inj z))] at h
    cases q : valI (putI kvs k v) j with
    | none =>
      rw [q] at h
      cases q2 : valI kvs j with
      | none => rfl
      | some x => rw [q2] at h; cases h
    | some x =>
      rw [q] at h
      cases q2 : valI kvs j with
      | none => rw [q2] at h; cases h
      | some y => rw [q2] at h; cases h; rfl
theorem putI_nd {kvs : KI} {k v : Int} (h : (kvs.map (·.1)).Nodup) : ((putI kvs k v).map (·.1)).Nodup := by
  unfold putI
  split
  · rw [List.map_map]
    have e : ((fun x : Int × Int => x.1) ∘ fun p : Int × Int => if p.1 = k then (p.1, v) else p) = fun x => x.1 := by
      funext p
      show (if p.1 = k then (p.1, v) else p).1 = p.1
      split <;> rfl
    rw [e]
    exact h
  · rename_i hn
    rw [List.map_append, List.nodup_append]
    refine ⟨h, by simp, fun a ha b hb e => ?_⟩
    have : b = k := by simpa using hb
    subst this
    obtain ⟨p, hp, e2⟩ := List.mem_map.mp ha
    exact hn (List.any_eq_true.mpr ⟨p, hp, by rw [decide_eq_true_eq, e2, e]⟩)
theorem mergeI_nd : ∀ {more kvs : KI}, (kvs.map (·.1)).Nodup → ((mergeI kvs more).map (·.1)).Nodup
  | [], _, h => h
  | p :: r, kvs, h => mergeI_nd (more := r) (putI_nd h)
/-- a table of few keys merged: the last of the same key -/
theorem valI_merge {j : Int} : ∀ {more kvs : KI}, (more.map (·.1)).Nodup → valI (mergeI kvs more) j = (valI more j).or (valI kvs j)
  | [], _, _ => by rfl
  | p :: r, kvs, h => by
    rw [List.map_cons, List.nodup_cons] at h
    show valI (mergeI (putI kvs p.1 p.2) r) j = _
    rw [valI_merge h.2, valI_put]
    have e : valI (p :: r) j = if j = p.1 then some p.2 else valI r j := by
      unfold valI
      rw [List.find?_cons]
      by_cases q : p.1 = j
      · rw [decide_eq_true q, if_pos q.symm]; rfl
      · rw [decide_eq_false q, if_neg (fun z => q z.symm)]
    rw [e]
    by_cases q : j = p.1
    · rw [if_pos q, if_pos q]
      have : valI r j = none := by
        cases z : valI r j with
        | none => rfl
        | some x => exact absurd (valI_iff.mp (by rw [z]; rfl)) (by rw [q]; exact h.1)
      rw [this]
      rfl
    · rw [if_neg q, if_neg q]
theorem nodup_sub : ∀ {xs ys : List Int}, xs.Nodup → (∀ a ∈ xs, a ∈ ys) → xs.length ≤ ys.length
  | [], _, _, _ => Nat.zero_le _
  | x :: xs, ys, h, k => by
    rw [List.nodup_cons] at h
    have hx := k x (by simp)
    have := nodup_sub (xs := xs) (ys := ys.erase x) h.2 fun a ha => (List.mem_erase_of_ne (fun e => h.1 (by rw [← e]; exact ha))).mpr (k a (by simp [ha]))
    rw [List.length_erase_of_mem hx] at this
    have hp := List.length_pos_of_mem hx
    rw [List.length_cons]
    omega
structure SameD (ks ls : KI) : Prop where
  len : ks.length = ls.length
  all : ∀ p ∈ ks, valI ls p.1 = some p.2
theorem valI_mem {kvs : KI} (h : (kvs.map (·.1)).Nodup) : ∀ p ∈ kvs, valI kvs p.1 = some p.2 := by
  induction kvs with
  | nil => intro p hp; simp at hp
  | cons q r ih =>
    intro p hp
    rw [List.map_cons, List.nodup_cons] at h
    unfold valI
    rw [List.find?_cons]
    rcases List.mem_cons.mp hp with rfl | hp
    · rw [decide_eq_true rfl]; rfl
    · have : q.1 ≠ p.1 := fun e => h.1 (by rw [e]; exact List.mem_map.mpr ⟨p, hp, rfl⟩)
      rw [decide_eq_false this]
      exact ih h.2 p hp
theorem same_of {ks ls : KI} (h1 : (ks.map (·.1)).Nodup) (h2 : (ls.map (·.1)).Nodup) (h : ∀ j, valI ks j = valI ls j) : SameD ks ls := by
  refine ⟨?_, fun p hp => by rw [← h, valI_mem h1 p hp]⟩
  have a := nodup_sub h1 (ys := ls.map (·.1)) fun k hk => by rw [← valI_iff, ← h]; exact valI_iff.mpr hk
  have b := nodup_sub h2 (ys := ks.map (·.1)) fun k hk => by rw [← valI_iff, h]; exact valI_iff.mpr hk
  rw [List.length_map, List.length_map] at a b
  omega
/-! ### steps -/
def fillI (acc : KI) (b : Int) (v : Int) (n : Nat) : KI := (List.range n).foldl (fun acc (i : Nat) => putI acc (b + (i : Int)) v) acc
theorem fillI_succ {acc : KI} {b v : Int} {n : Nat} : fillI acc b v (n + 1) = putI (fillI acc b v n) (b + (n : Int)) v := by
  unfold fillI
  rw [List.range_succ, List.foldl_append]
  rfl
def stepsGo (acc : KI) (rs : List Rn) : KI := rs.foldl (fun acc r => fillI acc r.1 r.2.2 (r.2.1 - r.1).toNat) acc
def stepsD (rs : List Rn) : KI := stepsGo [] rs
theorem fillI_len {acc : KI} {b v : Int} : ∀ {n : Nat}, (fillI acc b v n).length ≤ acc.length + n
  | 0 => by simp [fillI]
  | n + 1 => by
    rw [fillI_succ]
    have h1 := fillI_len (acc := acc) (b := b) (v := v) (n := n)
    have h2 := putI_len (k := b + (n : Int)) (v := v) (kvs := fillI acc b v n)
    omega
theorem fillI_nd {acc : KI} {b v : Int} (h : (acc.map (·.1)).Nodup) : ∀ {n : Nat}, ((fillI acc b v n).map (·.1)).Nodup
  | 0 => h
  | n + 1 => by rw [fillI_succ]; exact putI_nd (fillI_nd h)
theorem fillI_val {acc : KI} {b v j : Int} : ∀ {n : Nat}, valI (fillI acc b v n) j = if b ≤ j ∧ j < b + (n : Int) then some v else valI acc j
  | 0 => by
    rw [if_neg (by omega)]
    rfl
  | n + 1 => by
    rw [fillI_succ, valI_put, fillI_val]
    by_cases h1 : j = b + (n : Int)
    · rw [if_pos h1, if_pos (by omega)]
    · rw [if_neg h1]
      by_cases h2 : b ≤ j ∧ j < b + (n : Int)
      · rw [if_pos h2, if_pos (by omega)]
      · rw [if_neg h2, if_neg (by omega)]
theorem stepsGo_nd : ∀ {rs : List Rn} {acc : KI}, (acc.map (·.1)).Nodup → ((stepsGo acc rs).map (·.1)).Nodup
  | [], _, h => h
  | r :: rs, acc, h => stepsGo_nd (rs := rs) (fillI_nd h)
theorem stepsD_nd {rs : List Rn} : ((stepsD rs).map (·.1)).Nodup := stepsGo_nd (by simp)
def cvR (j : Int) (r : Rn) : Bool := decide (r.1 ≤ j) && decide (j < r.2.1)
def valR (rs : List Rn) (j : Int) : Option Int := (rs.reverse.find? (cvR j)).map (·.2.2)
theorem stepsGo_val {j : Int} : ∀ {rs : List Rn} {acc : KI}, valI (stepsGo acc rs) j = (valR rs j).or (valI acc j)
  | [], _ => rfl
  | r :: rs, acc => by
    show valI (stepsGo (fillI acc r.1 r.2.2 (r.2.1 - r.1).toNat) rs) j = _
    rw [stepsGo_val, fillI_val]
    unfold valR
    rw [List.reverse_cons, List.find?_append]
    cases rs.reverse.find? (cvR j) with
    | some x => rfl
    | none =>
      show (none : Option Int).or _ = (Option.map _ (List.find? (cvR j) [r])).or _
      rw [List.find?_cons]
      by_cases h : r.1 ≤ j ∧ j < r.2.1
      · have e : cvR j r = true := by unfold cvR; rw [decide_eq_true h.1, decide_eq_true h.2]; rfl
        rw [e, if_pos (by omega)]
        rfl
      · have e : cvR j r = false := by
          unfold cvR
          by_cases h1 : r.1 ≤ j
          · rw [decide_eq_false (show ¬ j < r.2.1 by omega), Bool.and_false]
          · rw [decide_eq_false h1, Bool.false_and]
        rw [e, if_neg (by omega)]
        rfl
theorem stepsD_val {rs : List Rn} {j : Int} : valI (stepsD rs) j = valR rs j := by
  unfold stepsD
  rw [stepsGo_val]
  cases valR rs j <;> rfl
theorem stepsGo_len : ∀ {rs : List Rn} {acc : KI} {w : Nat}, (∀ r ∈ rs, (r.2.1 - r.1).toNat ≤ w) → (stepsGo acc rs).length ≤ acc.length + w * rs.length
  | [], _, _, _ => by simp [stepsGo]
  | r :: rs, acc, w, h => by
    have h1 := stepsGo_len (rs := rs) (acc := fillI acc r.1 r.2.2 (r.2.1 - r.1).toNat) (w := w) fun x hx => h x (by simp [hx])
    have h2 := fillI_len (acc := acc) (b := r.1) (v := r.2.2) (n := (r.2.1 - r.1).toNat)
    have h3 := h r (by simp)
    show (stepsGo (fillI acc r.1 r.2.2 (r.2.1 - r.1).toNat) rs).length ≤ _
    rw [List.length_cons, Nat.mul_add, Nat.mul_one]
    omega
/-! ### covers at whole places -/
theorem cov_int {p : Pc} {j : Int} : coversB p (j, 1) = (decide (p.at_ ≤ j) && decide (j < p.at_ + p.many)) := by
  unfold coversB lessB
  simp only [Int.mul_one]
  congr 1
  by_cases h : p.at_ ≤ j
  · rw [decide_eq_true h, decide_eq_false (by omega)]; rfl
  · rw [decide_eq_false h, decide_eq_true (by omega)]; rfl
/-- the last that covers -/
def hiI (l : Ln) (j : Int) : Option Int := (hiF l (j, 1)).map Pc.n
theorem hi_same {l : Ln} {i j : Int} (h : ∀ p ∈ l.pcs, coversB p (i, 1) = coversB p (j, 1)) : hiF l (i, 1) = hiF l (j, 1) := by
  unfold hiF
  have gen : ∀ xs : List Pc, (∀ p ∈ xs, coversB p (i, 1) = coversB p (j, 1)) → xs.find? (fun p => coversB p (i, 1)) = xs.find? (fun p => coversB p (j, 1)) := by
    intro xs
    induction xs with
    | nil => intro _; rfl
    | cons x xs ih =>
      intro hx
      rw [List.find?_cons, List.find?_cons, hx x (by simp), ih fun p hp => hx p (by simp [hp])]
  exact gen _ fun p hp => h p (by simpa using hp)
theorem hi_none {l : Ln} {j : Int} (h : ∀ p ∈ l.pcs, coversB p (j, 1) = false) : hiF l (j, 1) = none := by
  unfold hiF
  rw [List.find?_eq_none]
  intro p hp
  simp [h p (by simpa using hp)]
structure RunInv (l : Ln) (e0 cur : Int) (acc : List Rn) : Prop where
  val : ∀ j, valR acc j = if e0 ≤ j ∧ j < cur then hiI l j else none
  le : ∀ r ∈ acc, r.1 ≤ r.2.1
theorem valR_snoc {acc : List Rn} {r : Rn} {j : Int} : valR (acc ++ [r]) j = if cvR j r = true then some r.2.2 else valR acc j := by
  unfold valR
  rw [List.reverse_append, List.reverse_singleton, List.singleton_append, List.find?_cons]
  cases cvR j r <;> simp
theorem cvR_iff {j : Int} {r : Rn} : cvR j r = true ↔ r.1 ≤ j ∧ j < r.2.1 := by unfold cvR; rw [Bool.and_eq_true, decide_eq_true_eq, decide_eq_true_eq]
theorem run_step {l : Ln} {e0 b e : Int} {acc : List Rn} (h : RunInv l e0 b acc) (h0 : e0 ≤ b) (hbe : b < e) (hc : ∀ j, b ≤ j → j < e → hiF l (j, 1) = hiF l (b, 1)) : RunInv l e0 e (runStep l acc (b, e)) := by
  have old : ∀ j, b ≤ j → valR acc j = none := fun j hj => by rw [h.val, if_neg (by omega)]
  have same : ∀ j, ¬ (b ≤ j ∧ j < e) → valR acc j = if e0 ≤ j ∧ j < e then hiI l j else none := fun j hj => by
    rw [h.val]
    by_cases q : e0 ≤ j ∧ j < b
    · rw [if_pos q, if_pos (by omega)]
    · rw [if_neg q, if_neg (by omega)]
  unfold runStep
  cases hh : hiF l ((b, e).1, 1) with
  | none =>
    have hh : hiF l (b, 1) = none := hh
    refine ⟨fun j => ?_, h.le⟩
    by_cases q : b ≤ j ∧ j < e
    · rw [old j q.1, if_pos (by omega)]
      unfold hiI
      rw [hc j q.1 q.2, hh]
      rfl
    · exact same j q
  | some p =>
    have hh : hiF l (b, 1) = some p := hh
    have hv : ∀ j, b ≤ j → j < e → hiI l j = some p.n := fun j h1 h2 => by unfold hiI; rw [hc j h1 h2, hh]; rfl
    have snoc : RunInv l e0 e (acc ++ [(b, e, p.n)]) := by
      refine ⟨fun j => ?_, fun r hr => ?_⟩
      · rw [valR_snoc]
        by_cases q : b ≤ j ∧ j < e
        · rw [if_pos (cvR_iff.mpr q), if_pos (by omega), hv j q.1 q.2]
        · rw [if_neg (fun z => q (cvR_iff.mp z))]
          exact same j q
      · rcases List.mem_append.mp hr with hr | hr
        · exact h.le r hr
        · rw [List.mem_singleton.mp hr]; exact Int.le_of_lt hbe
    cases hl : acc.getLast? with
    | none => exact snoc
    | some r =>
      obtain ⟨ini, rfl⟩ : ∃ ini, acc = ini ++ [r] := List.getLast?_eq_some_iff.mp hl
      show RunInv l e0 e (if r.2.1 = b ∧ r.2.2 = p.n then _ else _)
      by_cases hq : r.2.1 = b ∧ r.2.2 = p.n
      · rw [if_pos hq, List.dropLast_concat]
        have rle := h.le r (by simp)
        have rlt : ∀ z ∈ ini, z.1 ≤ z.2.1 := fun z hz => h.le z (by simp [hz])
        refine ⟨fun j => ?_, fun z hz => ?_⟩
        · have oj := h.val j
          rw [valR_snoc] at oj ⊢
          by_cases q1 : j < b
          · by_cases q2 : r.1 ≤ j
            · rw [if_pos (cvR_iff.mpr ⟨q2, by rw [hq.1]; exact q1⟩)] at oj
              rw [if_pos (show cvR j (r.1, e, p.n) = true from cvR_iff.mpr ⟨q2, by show j < e; omega⟩)]
              show some p.n = _
              rw [← hq.2, oj]
              by_cases q3 : e0 ≤ j
              · rw [if_pos ⟨q3, q1⟩, if_pos (by omega)]
              · rw [if_neg (by omega), if_neg (by omega)]
            · rw [if_neg (fun z => q2 (cvR_iff.mp z).1)] at oj
              rw [if_neg (show ¬ cvR j (r.1, e, p.n) = true from fun z => q2 (cvR_iff.mp z).1), oj]
              by_cases q3 : e0 ≤ j
              · rw [if_pos ⟨q3, q1⟩, if_pos (by omega)]
              · rw [if_neg (by omega), if_neg (by omega)]
          · rw [if_neg (fun z => by have := (cvR_iff.mp z).2; rw [hq.1] at this; omega), if_neg (by omega)] at oj
            by_cases q2 : j < e
            · rw [if_pos (show cvR j (r.1, e, p.n) = true from cvR_iff.mpr ⟨by show r.1 ≤ j; rw [hq.1] at rle; omega, q2⟩), if_pos (by omega), hv j (by omega) q2]
            · rw [if_neg (show ¬ cvR j (r.1, e, p.n) = true from fun z => q2 (cvR_iff.mp z).2), oj, if_neg (by omega)]
        · rcases List.mem_append.mp hz with hz | hz
          · exact rlt z hz
          · rw [List.mem_singleton.mp hz]
            show r.1 ≤ e
            rw [hq.1] at rle
            omega
      · rw [if_neg hq]
        exact snoc
/-- spans of edges that stand behind each other -/
theorem run_spans {l : Ln} {e0 : Int} : ∀ {es : List Int} {b : Int} {acc : List Rn}, (b :: es).Pairwise (· < ·) → e0 ≤ b → (∀ p ∈ l.pcs, ∀ x, x = p.at_ ∨ x = p.at_ + p.many → x ≤ b ∨ x ∈ es) → RunInv l e0 b acc →
    RunInv l e0 ((b :: es).getLast (by simp)) (((b :: es).zip es).foldl (runStep l) acc)
  | [], b, acc, _, _, _, h => h
  | e :: es, b, acc, hs, h0, hm, h => by
    have hbe : b < e := (List.pairwise_cons.mp hs).1 e (by simp)
    have hs2 := (List.pairwise_cons.mp hs).2
    have hlt : ∀ x ∈ e :: es, e ≤ x := fun x hx => by
      rcases List.mem_cons.mp hx with rfl | hx
      · exact Int.le_refl _
      · exact Int.le_of_lt ((List.pairwise_cons.mp hs2).1 x hx)
    have hst := run_step (e := e) h h0 hbe fun j j1 j2 => hi_same fun p hp => by
      rw [cov_int, cov_int]
      have a := hm p hp p.at_ (.inl rfl)
      have c := hm p hp (p.at_ + p.many) (.inr rfl)
      have a' : p.at_ ≤ b ∨ e ≤ p.at_ := a.imp id fun z => hlt _ z
      have c' : p.at_ + p.many ≤ b ∨ e ≤ p.at_ + p.many := c.imp id fun z => hlt _ z
      congr 1 <;> refine decide_eq_decide.mpr ?_ <;> omega
    have := run_spans (es := es) (b := e) hs2 (by omega) (fun p hp x hx => by
      rcases hm p hp x hx with z | z
      · exact .inl (by omega)
      · rcases List.mem_cons.mp z with rfl | z
        · exact .inl (Int.le_refl _)
        · exact .inr z) hst
    exact this
theorem runs_val {l : Ln} (hp : ∀ p ∈ l.pcs, 0 ≤ p.many) (j : Int) : valR (runsF l) j = hiI l j := by
  have hmem : ∀ p ∈ l.pcs, ∀ x, x = p.at_ ∨ x = p.at_ + p.many → x ∈ edgesF l.pcs := fun p hp x hx => by
    unfold edgesF
    rw [uS_mem, List.mem_append]
    rcases hx with rfl | rfl
    · exact .inl (List.mem_map.mpr ⟨p, hp, rfl⟩)
    · exact .inr (List.mem_map.mpr ⟨p, hp, rfl⟩)
  have hsort : (edgesF l.pcs).Pairwise (· < ·) := uS_sort
  unfold runsF spansF
  cases he : edgesF l.pcs with
  | nil =>
    have hn : hiI l j = none := by
      unfold hiI
      rw [hi_none fun p hq => by have := hmem p hq p.at_ (.inl rfl); rw [he] at this; simp at this]
      rfl
    rw [hn]
    rfl
  | cons b es =>
    rw [he] at hsort hmem
    have hb : ∀ x ∈ b :: es, b ≤ x := fun x hx => by
      rcases List.mem_cons.mp hx with rfl | hx
      · exact Int.le_refl _
      · exact Int.le_of_lt ((List.pairwise_cons.mp hsort).1 x hx)
    have hlast : ∀ x ∈ b :: es, x ≤ (b :: es).getLast (by simp) := by
      have gen : ∀ (xs : List Int) (h : xs ≠ []), xs.Pairwise (· < ·) → ∀ x ∈ xs, x ≤ xs.getLast h := by
        intro xs
        induction xs with
        | nil => intro h; exact absurd rfl h
        | cons y ys ih =>
          intro _ hs x hx
          cases ys with
          | nil => rw [List.mem_singleton.mp hx]; exact Int.le_refl _
          | cons z zs =>
            have i2 := ih (by simp) (List.pairwise_cons.mp hs).2
            rcases List.mem_cons.mp hx with rfl | hx
            · have := i2 z (by simp)
              have := (List.pairwise_cons.mp hs).1 z (by simp)
              rw [List.getLast_cons (by simp)]
              omega
            · rw [List.getLast_cons (by simp)]
              exact i2 x hx
      exact gen _ _ hsort
    have inv := run_spans (l := l) (e0 := b) (es := es) (b := b) (acc := []) hsort (Int.le_refl _) (fun p hp x hx => (List.mem_cons.mp (hmem p hp x hx)).imp (fun z => by rw [z]; exact Int.le_refl _) id) ⟨fun j => by rw [if_neg (by omega)]; rfl, fun r hr => by simp at hr⟩
    show valR (((b :: es).zip es).foldl (runStep l) []) j = _
    rw [inv.val]
    by_cases q : b ≤ j ∧ j < (b :: es).getLast (by simp)
    · rw [if_pos q]
    · rw [if_neg q]
      unfold hiI
      rw [hi_none fun p hq => by
        rw [cov_int]
        have a := hb _ (hmem p hq p.at_ (.inl rfl))
        have c := hlast _ (hmem p hq (p.at_ + p.many) (.inr rfl))
        by_cases z : p.at_ ≤ j
        · rw [decide_eq_false (show ¬ j < p.at_ + p.many by omega), Bool.and_false]
        · rw [decide_eq_false z, Bool.false_and]]
      rfl
end BL
set_option maxHeartbeats 4000000
/-! Foundation, part 13: enumerate over a tuple; dicts of ints -/
namespace L2
open PySem PySem.Spec PyProof.Rows Evl
set_option maxHeartbeats 4000000 in
theorem meets_enumerate_newB0 {v : Value} {o : Obj} {H : Heap → Prop} (B : Begins v o H) :
    Meets (Builtin.«enumerate.__new__» ⟨[.type "enumerate", v], []⟩) (fun _ R s => H s.heap ∧
      R (.ok (.ret (.ref (s.heap.push o).objs.size))) { s with heap := (s.heap.push o).push { cls := .type "enumerate", data := .fields #[.none, .bool false, .ref s.heap.objs.size, rawInt 0, .none, .none] } }) :=
  .of_wp fun prog w A R s h => by
    obtain ⟨hp, g, d, tk, os⟩ := s
    obtain ⟨h1, h⟩ := h
    have hsub := sub_enumerate
    have q1 : ∀ {A' : Around} {E : Value → Shared → Prop} {Q : Value → Shared → Prop}, Q (.ref hp.objs.size) ⟨hp.push o, g, d, tk, os⟩ → wpAny (model prog w) A' (pyIter v) Q E ⟨hp, g, d, tk, os⟩ :=
      fun q => B.iter prog w _ _ ⟨hp, g, d, tk, os⟩ _ h1 q
    wp_walk using q1
    refine wpAny_stack_any fun st => wpAny_pure ?_
    split
    · rename_i c _ _ _ _ _
      cases (c == Value.type "enumerate")
      · wp_walk using q1
        exact ⟨_, rfl, h⟩
      · wp_walk using q1
        exact ⟨_, rfl, h⟩
    · wp_walk using q1
      exact ⟨_, rfl, h⟩
section
variable {prog : Program} {w : World} {A : Around} {E : Value → Shared → Prop} {s : Shared}
theorem enum_begins0 {v : Value} {o : Obj} {H : Heap → Prop} {Q : Value → Shared → Prop} (B : Begins v o H) (h1 : H s.heap)
    (h : ∀ h', IsEnum h' (s.heap.objs.size + 1) s.heap.objs.size 0 .none → h'.get? s.heap.objs.size = some o → h'.objs.size = s.heap.objs.size + 2 →
      (∀ b o, s.heap.get? b = some o → h'.get? b = some o) → Q (.ref (s.heap.objs.size + 1)) { s with heap := h' }) :
    wpAny (model prog w) A (call (.type "enumerate") [v]) Q E s := by
  refine callType_new F.called_enumerate (by decide) (F.typeCall_enumerate_1 _) (F.newCall_enumerate_1 _) (fun obj => F.args_object_init_2 obj _) F.entry_enumerate_new
    (meets_enumerate_newB0 B) ⟨h1, ?_⟩
  have hz : (s.heap.push o).objs.size = s.heap.objs.size + 1 := Heap.size_push ..
  show _ ∧ _
  rw [hz]
  have he : IsEnum ((s.heap.push o).push { cls := .type "enumerate", data := .fields #[.none, .bool false, .ref s.heap.objs.size, rawInt 0, .none, .none] }) (s.heap.objs.size + 1) s.heap.objs.size 0 .none := by
    have := Heap.get?_push_size (s.heap.push o) (o := { cls := .type "enumerate", data := .fields #[.none, .bool false, .ref s.heap.objs.size, rawInt 0, .none, .none] }) rfl
    rw [hz] at this; exact this
  refine ⟨⟨_, he, rfl⟩, h _ he (Heap.get?_push_of_some _ (Heap.get?_push_size _ B.free)) (by rw [Heap.size_push, hz]) fun b o x => Heap.get?_push_of_some _ (Heap.get?_push_of_some _ x)⟩
end
/-- the tuple at a, each item in a new pair -/
def IteT (K : PySem.W.Frag) (a : Addr) : It :=
  ⟨fun i H => ∃ (xs : List V) (x : V), SqT K H a xs ∧ xs[i]? = some x, fun i H v H' => ∃ T x, v = .ref T ∧ H T = none ∧ H' = upd H T (.tup [.int (i : Nat), x]) ∧ ∀ xs, SqT K H a xs → xs[i]? = some x, fun i H => ∃ xs : List V, SqT K H a xs ∧ xs.length = i⟩
theorem turn_enumT {P : Program} {w : World} {K : PySem.W.Frag} {elts : List Expr} {kk : Nat} {tpos : Pos} (a e it : Addr) :
    Turn P w K (.Tuple elts kk tpos) (IteT K a) [e, it] e (fun i h => (∃ old, IsEnum h e it ((i : Nat) : Int) old) ∧ h.IsTupleIter it a i ∧ e ≠ it ∧ e ≠ a ∧ a ≠ it) where
  mem := by simp
  obj := fun i h st b hb => by
    obtain ⟨⟨old, he⟩, ⟨o, ho, hc, hd⟩, _⟩ := st
    have e' : b = e ∨ b = it := by simpa using hb
    rcases e' with z | z
    · rw [z]; exact ⟨_, he, fun v q => nomatch q⟩
    · rw [z]; exact ⟨o, ho, fun v q => by rw [hd] at q; cases q⟩
  keep := fun i h h' st k => let ⟨⟨old, he⟩, hi, hne⟩ := st; ⟨⟨old, k e (by simp) _ he⟩, hi.at fun o q => k it (by simp) o q, hne⟩
  item := by
    intro X hP hw hK hc i pins s σ H E I hf st hg
    subst hP hw hK
    obtain ⟨⟨old, he⟩, hit, hne, hea, hai⟩ := st
    obtain ⟨xs, x, hq, hx⟩ := hg
    obtain ⟨its, rv, p, hz⟩ := I.tuple hq
    obtain ⟨u, hu, ru⟩ := rv.get hx
    have hel : e < s.heap.objs.size := Heap.lt_size he
    have hil : it < s.heap.objs.size := by obtain ⟨_, q, _⟩ := hit; exact Heap.lt_size q
    have hii : i < its.toArray.size := by
      have := (List.getElem?_eq_some_iff.mp hu).1
      simpa using this
    refine wpAny_pyNext_enum_itemC (Draws.tuple (show X.A.in1.handled = none from I.ok.hd hc) it a hai its.toArray) he ⟨hit, (show s.heap.IsTuple a its.toArray from p)⟩ hii hne (by simp [hne, hea]) fun x2 h' tk hx2 ho hst' hT hsz hk => ?_
    have ex : x2 = u := by
      have h2 : its.toArray[i]? = some u := by simpa using hu
      rw [hx2] at h2
      exact Option.some.inj h2
    subst ex
    refine ⟨_, rfl, wpAny_letOwnedTupleGo_enum (s := { s with heap := h', toks := tk + 1 }) ho fun h'' he' sb => ?_⟩
    have hT2 : h''.get? s.heap.objs.size = some { cls := .type "tuple", data := .seq #[.int i tk, x2] } := (sb.2 _ (Nat.ne_of_gt hel)).trans hT
    have new : ObjOk X.prog X.w (upd H s.heap.objs.size (.tup [.int (i : Nat), x])) h'' s.heap.objs.size (.tup [.int (i : Nat), x]) :=
      ⟨by show 2 ≤ sizeLine; decide, [.int i tk, x2], .cons ⟨_, rfl⟩ (.cons ru .nil), ⟨_, hT2, rfl, _, rfl⟩⟩
    have I1 : Inv X pins σ (upd H s.heap.objs.size (.tup [.int (i : Nat), x])) { s with heap := h'', toks := tk + 1 } :=
      I.turnedNew (ch := [e, it]) (fun b ob hb q => (sb.2 b (fun z => hb (by simp [z]))).trans (hk b ob (fun z => hb (by simp [z])) (fun z => hb (by simp [z])) q)) hf (Nat.le_refl _) new
    refine ⟨.ref s.heap.objs.size, _, I1, rfl, ⟨_, x, rfl, I.hok.fresh (Nat.le_refl _), rfl, fun ys hy => by rw [I.tuple_inj hy hq]; exact hx⟩, ⟨⟨x2, ?_⟩, hst'.1.at fun o q => (sb.2 it (Ne.symm hne)).trans q, hne, hea, hai⟩, fun b hb => ?_⟩
    · have e1 : ((i + 1 : Nat) : Int) = (i : Int) + 1 := by omega
      rw [e1]; exact he'
    · have hb' : b < s.heap.objs.size := by
        have e' : b = e ∨ b = it := by simpa using hb
        rcases e' with z | z
        · rw [z]; exact hel
        · rw [z]; exact hil
      rw [upd_ne (Nat.ne_of_lt hb')]
      exact (hf b hb).1
  done := by
    intro X hP hw hK hc i pins s σ H E I hf st hg
    subst hP hw hK
    obtain ⟨⟨old, he⟩, hit, hne, hea, hai⟩ := st
    obtain ⟨xs, hq, hx⟩ := hg
    obtain ⟨its, rv, p, hz⟩ := I.tuple hq
    obtain ⟨f0, f1, f2, f3, f4, f5⟩ := hf it (by simp)
    have hl := rv.length
    have hn : its.toArray.size = i := by simp; omega
    subst hn
    exact wpAny_pyNext_enum_endD (Draws.tuple (show X.A.in1.handled = none from I.ok.hd hc) it a hai its.toArray) he ⟨hit, (show s.heap.IsTuple a its.toArray from p)⟩ fun h' eb => ⟨rfl, I.turned (t' := s.toks) (fun b o hb q => eb b o hb q) f0 f1 f3 f4 f5⟩
  self := fun A i s Q E st h => let ⟨⟨_, he⟩, _⟩ := st; wpAny_pyIter_enum he h
def iEnumT (K : PySem.W.Frag) (ta : TA) : TI := fun σ H R => ta σ H fun vs H1 => ∃ a xs, vs = [.ref a] ∧ SqT K H1 a xs ∧ R (IteT K a) H1
theorem pi_enumT {X : Cx} {e : Expr} {ta : TA} {p pos tpos : Pos} {elts : List Expr} {kk : Nat} (hg : Gl X "enumerate") (hm : X.mg "enumerate" = none) (ha : PA X [e] ta) (hs : starEach [e] X.env = [(false, eval e X.env)] := by rfl) :
    PI X (.Tuple elts kk tpos) (.Call (.Name "enumerate" p) [e] [] pos) (iEnumT X.K ta) := by
  refine ⟨fun pins s σ H R I h => ?_⟩
  refine Call_ (ld_blt I hg hm boot_enumerate (PyProof.Rows.callWith_type1 (thn (ha.run pos pins s σ H _ I h) fun us s1 ⟨vs, H1, I1, r1, q1⟩ => ?_) hs rfl))
  obtain ⟨a, xs, ex, hq, q⟩ := q1
  subst ex
  cases r1 with
  | cons r rr =>
    cases rr
    cases r
    obtain ⟨its, rv, p', hz⟩ := I1.tuple hq
    have hal : a < s1.heap.objs.size := by obtain ⟨_, q2, _⟩ := (show s1.heap.IsTuple a its.toArray from p'); exact Heap.lt_size q2
    refine enum_begins0 (begins_tuple a its.toArray) (show s1.heap.IsTuple a its.toArray from p') fun h' he hit hsz hk => wpAny_pyIter_enum he ?_
    have I2 : Inv X pins σ H1 { s1 with heap := h' } := I1.kept (t' := s1.toks) hk
    refine ⟨s1.heap.objs.size + 1, [s1.heap.objs.size + 1, s1.heap.objs.size], _, _, H1, rfl, I2, turn_enumT a (s1.heap.objs.size + 1) s1.heap.objs.size, ⟨⟨.none, he⟩, ⟨_, hit, rfl, rfl⟩, Nat.succ_ne_self _, Nat.ne_of_gt (Nat.lt_succ_of_lt hal), Nat.ne_of_lt hal⟩, fun b hb => ?_, q⟩
    have e' : b = s1.heap.objs.size + 1 ∨ b = s1.heap.objs.size := by simpa using hb
    have hle : s1.heap.objs.size ≤ b := by
      rcases e' with z | z
      · rw [z]; exact Nat.le_add_right _ _
      · rw [z]; exact Nat.le_refl _
    exact I1.fpOk hle (I1.hok.fresh hle)
theorem walk_enumT {K : PySem.W.Frag} {a : Addr} {xs : List V} : Walk (IteT K a) xs.length (fun H => SqT K H a xs) (YPair (fun i => some (.int (i : Nat))) (fun i => xs[i]?)) := by
  refine ⟨fun i _ hi q => ⟨xs, xs[i], q, by simp [hi]⟩, fun _ q => ⟨xs, q, rfl⟩, fun i H v H' _ q y => ?_⟩
  obtain ⟨T, x, h1, h2, h3, h4⟩ := y
  exact ⟨T, .int (i : Nat), x, h1, h2, h3, rfl, h4 xs q⟩
/-- d.update(d2) -/
def rUpdD : V → List V → Hp → VK → Prop := fun x vs H Q => ∃ (a b : Addr) (ks more : List (Key × V)), x = .ref a ∧ vs = [.ref b] ∧ H a = some (.dK ks) ∧ H b = some (.dK more) ∧ a ≠ b ∧ ks.length + more.length ≤ sizeLine ∧ Q .non (upd H a (.dK (mergeK ks more)))
theorem mtd_update {X : Cx} : MtR X "dict.update" rUpdD := by
  intro pins s σ H x vs v us Q I rx rv h
  obtain ⟨a, b, ks, more, rfl, rfl, ea, eb, hab, hz, q⟩ := h
  obtain rfl : v = Value.ref a := rx
  cases rv with
  | cons r rr =>
    cases rr
    cases r
    obtain ⟨z1, d1, vs1, rel1, dd1⟩ := dk_of I.hok ea
    obtain ⟨z2, d2, vs2, rel2, dd2⟩ := dk_of I.hok eb
    refine call_meetsIn PySem.F.slot_dict_update dd1.typeIs PySem.F.entry_dict_update (PySem.F.args_dict_update_2 _ _) (meets_dict_update (mixKind X.prog X.w) a b hab d2) ⟨vs1, vs2, dd1, dd2, by rw [← rel1.length, ← rel2.length]; exact hz, fun h' dd' _ hs => ?_⟩
    have he : ∃ q, h'.get? a = some q := let ⟨q, _, _, hq, _⟩ := dd'; ⟨q, hq⟩
    exact ⟨.non, _, d_write I (by rw [ea]; exact True.intro) hs he (dk_new (Nat.le_trans (length_mergeK more ks) hz) d1 (rel2.merge rel1) dd'), rfl, q⟩
end L2
set_option maxHeartbeats 4000000
/-! Foundation, part 14: enumerate, dicts, by data -/
namespace BL
open PySem PySem.Spec PyProof.Rows L2 Evl RT
section
variable {T : Tb} {X : Cx} {ρ : Rho} {M : Mem} {E : DE} {e o jx d : Expr} {es : List Expr} {pos p : Pos} {i v : Int} {kvs : KI} {Ψ : List Dt → Mem → Prop}
theorem iw_enumT {kk : Nat} {tpos : Pos} {xs : List Dt} (hg : Gl X "enumerate") (hm : X.mg "enumerate" = none) (h : ED T X e ρ (.tup xs)) (k : Ψ ((xs.zipIdx).map fun q => .tup [.int (q.2 : Nat), q.1]) M)
    (hs : starEach [e] X.env = (false, eval e X.env) :: starEach [] X.env := by exact st_any rfl) : IW T X (.Tuple es kk tpos) (.Call (.Name "enumerate" p) [e] [] pos) ρ M Ψ := fun F H σ R f s m q =>
  ⟨_, pi_enumT hg hm (pa_cons pe_w pa_nil hs) hs, h F H σ _ f s fun v F1 H1 f1 s1 r1 => by
    obtain ⟨a, us, rfl, h1, h2⟩ := rp_tup.mp r1
    refine ⟨a, us, rfl, ex_t f1.sub h1, q _ _ M F1 H1 k (Reach.pure m f1 s1) ⟨⟨YPair (fun i => some (.int (i : Nat))) (fun i => us[i]?), ?_, fun i d Hc x Hc' hd hy F' f' e' => ?_⟩⟩⟩
    · rw [List.length_map, List.length_zipIdx, ← h2.length]
      exact (walk_enumT (K := X.K) (a := a) (xs := us)).mono (fun H e => ex_t e h1) fun _ _ _ _ _ _ y => y
    · obtain ⟨T0, x1, y1, rfl, hn, rfl, g1, g2⟩ := hy
      cases g1
      obtain ⟨dy, k3, k4⟩ := h2.getV g2
      have ed : d = .tup [.int (i : Nat), dy] := by
        rw [List.getElem?_map, List.getElem?_zipIdx, k3] at hd
        simpa using hd.symm
      subst ed
      exact pair_new f' hn (rp_int.mpr rfl) (k4.mono e')⟩
/-! dicts -/
variable {ix : Nat} {x : Str} {px : Pos}
theorem we_newD {Ψ : Dt → Mem → Prop} (k : ∀ q, Ψ (.adr q) (M ++ [(q, .dct [])])) : WE T X (.Dict [] [] pos) ρ M Ψ := fun F H σ Q f s m kk =>
  PE_w pe_dnewK (fun p hp => kk _ _ _ _ _ (k p) (reach_new (o := .dct []) (u := .dK []) f m hp upd_same) (rp_adr.mpr rfl))
/-- d[i] = v -/
theorem w1_dput {n : Nat} {q : Addr} {pos' : Pos} (hu : X.A.units + 1 < cLine) (ho : EQ T X o ρ q) (hi : ED T X jx ρ (.int i)) (hv : ED T X e ρ (.int v)) (hM : M[n]? = some (q, .dct kvs)) (hl : kvs.length < 100000) (k : E.nx ρ (M.set n (q, .dct (putI kvs i v))))
    (hs : swapsWith e (some (.Subscript o jx pos')) pos.line X.env = pure false := by rfl) : W1 T X (.Assign [.Subscript o jx pos'] e pos) ρ M E := fun F H σ D f s m kk =>
  PS_w (ps_dput hu pe_w pe_w pe_w hs) (hv F H σ _ f s fun y F1 H1 f1 s1 r1 => ho F1 H1 σ _ f1 (s.mono s1.ff) fun y2 F2 H2 f2 s2 r2 => hi F2 H2 σ _ f2 ((s.mono s1.ff).mono s2.ff) fun y3 F3 H3 f3 s3 r3 => by
    have q3 := ((Reach.pure (T := T) m f1 s1).trans (Reach.pure (m.step s1) f2 s2)).trans (Reach.pure ((m.step s1).step s2) f3 s3)
    have hq : H3 q = some (.dK (kvI kvs)) := (q3.mem.at_ _ (List.mem_of_getElem? hM) : ObjIs X.K F3 H3 q (.dct kvs))
    rw [rp_adr.mp r2, rp_int.mp r3, rp_int.mp r1]
    refine ⟨q, upd H3 q (.dK (kvI (putI kvs i v))), rfl, ?_, ?_⟩
    · rw [kvI_put]
      exact DPut.k (k := Sum.inl i) hq (by rw [kvI_len]; exact Nat.lt_of_lt_of_le hl (by decide))
    · exact kk.nx _ _ _ _ _ k (q3.trans (reach_set (o' := .dct (putI kvs i v)) q3.fine q3.mem hM hq (.inr ⟨_, rfl⟩) upd_same)) (s.at_reach q3 |>.mono (Ex.refl _)))
/-- d.update(d2), d2 at hand -/
theorem we_updD {apos : Pos} {Ψ : Dt → Mem → Prop} {q : Addr} {n : Nat} {more : KI} (ho : EQ T X o ρ q) (hM : M[n]? = some (q, .dct kvs)) (h : ED T X e ρ (.dct more)) (hl : kvs.length + more.length ≤ 100000) (k : Ψ .non (M.set n (q, .dct (mergeI kvs more))))
    (hbase : attributeBase o "update" X.env (eval o X.env) = eval o X.env := by rfl) (hline : (apos.endLine == pos.line) = true := by rfl) (hs : starEach [e] X.env = (false, eval e X.env) :: starEach [] X.env := by exact st_any rfl)
    (hfew : ((backTo pos (starEach [e] X.env)).all (fun x => !x.1) && (backToKw pos (keywordEach [] X.env)).all (fun x => x.1.isSome) && decide (([e] : List Expr).length + ([] : List Keyword).length + (if ([] : List Keyword).isEmpty then 0 else 1) < 30)) = true := by rfl) : WE T X (.Call (.Attribute o "update" apos) [e] [] pos) ρ M Ψ := fun F H σ Q f s m kk =>
  PE_w (pe_bm PySem.F.plainAttrs_dict PySem.F.slot_dict_update PySem.F.type_dict_update mtd_update pe_w (pa_cons pe_w pa_nil hs) hbase hfew hline hs rfl) (ho F H σ _ f s fun y F1 H1 f1 s1 r1 => by
    rw [rp_adr.mp r1]
    have q1 := Reach.pure (T := T) m f1 s1
    have hq1 : H1 q = some (.dK (kvI kvs)) := (q1.mem.at_ _ (List.mem_of_getElem? hM) : ObjIs X.K F1 H1 q (.dct kvs))
    refine ⟨.inr (.inr (.inl ⟨rfl, .inl ⟨_, hq1⟩⟩)), h F1 H1 σ _ f1 (s.mono s1.ff) fun y2 F2 H2 f2 s2 r2 => ?_⟩
    have q2 := q1.trans (Reach.pure (T := T) q1.mem f2 s2)
    have hq2 : H2 q = some (.dK (kvI kvs)) := (q2.mem.at_ _ (List.mem_of_getElem? hM) : ObjIs X.K F2 H2 q (.dct kvs))
    obtain ⟨b, rfl, hb⟩ := rp_dct.mp r2
    have hF : F2 q = none := q2.mem.out _ (List.mem_of_getElem? hM)
    refine ⟨q, b, kvI kvs, kvI more, rfl, rfl, hq2, f2.sub _ _ hb, (fun z => by rw [z, hb] at hF; exact absurd hF (by simp)), by rw [kvI_len, kvI_len]; exact Nat.le_trans hl (by decide), ?_⟩
    rw [← kvI_merge]
    exact kk _ _ _ _ _ k (q2.trans (reach_set (o' := .dct (mergeI kvs more)) q2.fine q2.mem hM hq2 (.inr ⟨_, rfl⟩) upd_same)) (rp_non.mpr rfl))
/-- a dict that is not changed any more -/
theorem ws_freezeD {sts : List Stmt} {n : Nat} {q : Addr} (hM : M[n]? = some (q, .dct kvs)) (hρ : ρ[ix]? = some (some (.adr q))) (h : WS T X sts (ρ.set ix (some (.dct kvs))) (M.eraseIdx n) E) : WS T X sts ρ M E := fun F H σ D f s m k => by
  have hq : (q, MO.dct kvs) ∈ M := List.mem_of_getElem? hM
  have hv : H q = some (.dK (kvI kvs)) := (m.at_ _ hq : ObjIs X.K F H q (.dct kvs))
  have fq : F q = none := m.out _ hq
  have eF : Ex F (upd F q (.dK (kvI kvs))) := Ex.new fq
  have f1 : Fine T (upd F q (.dK (kvI kvs))) H := by
    refine ⟨fun a u h => ?_, f.tab, fun a ps h => ?_, f.bs.trans eF⟩
    · by_cases e : a = q
      · subst e; rw [upd_same] at h; rw [← Option.some.inj h]; exact hv
      · rw [upd_ne e] at h; exact f.sub a u h
    · by_cases e : a = q
      · subst e; rw [upd_same] at h; cases h
      · rw [upd_ne e] at h; exact f.nt a ps h
  have rq : Rp X.K (upd F q (.dK (kvI kvs))) (.ref q) (.dct kvs) := rp_dct.mpr ⟨q, rfl, upd_same⟩
  have ne : ∀ p ∈ M.eraseIdx n, p.1 ≠ q := fun p hp e => by
    obtain ⟨j, hj, hjn⟩ : ∃ j, M[j]? = some p ∧ j ≠ n := by
      obtain ⟨j, hj⟩ := List.mem_iff_getElem?.mp hp
      rw [List.getElem?_eraseIdx] at hj
      by_cases hlt : j < n
      · rw [if_pos hlt] at hj; exact ⟨j, hj, by omega⟩
      · rw [if_neg hlt] at hj; exact ⟨j + 1, hj, by omega⟩
    have a1 : (dom M)[j]? = some q := by rw [List.getElem?_map, hj]; simp [e]
    have a2 : (dom M)[n]? = some q := by rw [List.getElem?_map, hM]; rfl
    exact hjn (nd_ix m.nd a1 a2)
  have m1 : MemOk X.K (upd F q (.dK (kvI kvs))) H (M.eraseIdx n) := by
    refine ⟨(m.eraseIdx n).nd, fun p hp => ?_, fun p hp => ?_⟩
    · rw [upd_ne (ne p hp)]; exact (m.eraseIdx n).out p hp
    · exact ((m.eraseIdx n).at_ p hp : ObjIs _ _ _ _ _).keep eF fun u e => e
  have r1 : Reach T X.K M F H (M.eraseIdx n) (upd F q (.dK (kvI kvs))) H := by
    refine ⟨⟨eF, fun a o _ h _ => h, fun a o ha _ _ fa => ?_⟩, f1, m1, fun a ha => .inl ?_⟩
    · rw [upd_ne (fun e => ha (by subst e; exact List.mem_map.mpr ⟨_, hq, rfl⟩))]; exact fa
    · obtain ⟨p, hp, e⟩ := List.mem_map.mp ha
      exact List.mem_map.mpr ⟨p, List.mem_of_mem_eraseIdx hp, e⟩
  have s1 : Slots X.K (upd F q (.dK (kvI kvs))) σ (ρ.set ix (some (.dct kvs))) := by
    have s0 := s.mono eF
    refine ⟨by rw [List.length_set]; exact s0.len, fun j d hj => ?_⟩
    by_cases hji : ix = j
    · subst hji
      have hl : ix < ρ.length := (List.getElem?_eq_some_iff.mp hρ).1
      rw [List.getElem?_set_self hl] at hj
      cases hj
      obtain ⟨v, a1, a2⟩ := s0.at_ ix _ hρ
      rw [rp_adr.mp a2] at a1
      exact ⟨_, a1, rq⟩
    · rw [List.getElem?_set_ne hji] at hj
      exact s0.at_ j d hj
  exact h _ H σ D f1 s1 m1 (k.after r1)
def oI : Option Int → Dt
  | none => .non
  | some i => .int i
theorem oI_rp {K : PySem.W.Frag} {F : Hp} {o : Option Int} : Rp K F ((o.map V.int).getD .non) (oI o) := by
  cases o with
  | none => exact rp_non.mpr rfl
  | some i => exact rp_int.mpr rfl
/-- d.get(i, None) -/
theorem ed_dget2 {apos npos : Pos} {y : Nat} (hu : X.A.units + 1 < cLine) (ho : ED T X o ρ (.dct kvs)) (hi : ED T X jx ρ (.int i)) (m : M2 X o "get" apos jx (.Constant .none y npos) pos := by exact ⟨rfl, rfl, rfl, rfl⟩) : ED T X (.Call (.Attribute o "get" apos) [jx, .Constant .none y npos] [] pos) ρ (oI (valI kvs i)) := fun F H σ Q f s k =>
  PE_w (pe_dget2 hu pe_w pe_w pe_w m) (ho F H σ _ f s fun a F1 H1 f1 s1 r1 => by
    obtain ⟨b, rfl, hb⟩ := rp_dct.mp r1
    refine ⟨b, rfl, .inl ⟨_, .inl (f1.sub _ _ hb)⟩, hi F1 H1 σ _ f1 (s.mono s1.ff) fun y F2 H2 f2 s2 r2 => (ed_non (T := T) (ρ := ρ)) F2 H2 σ _ f2 ((s.mono s1.ff).mono s2.ff) fun z F3 H3 f3 s3 r3 => ?_⟩
    rw [rp_int.mp r2, rp_non.mp r3]
    refine ⟨_, DGet.k (k := Sum.inl i) (f3.sub _ _ (s3.ff _ _ (s2.ff _ _ hb))), ?_⟩
    rw [kvI_val]
    exact k _ F3 H3 f3 ((s1.trans0 s2).trans0 s3) oI_rp)
/-- d[i] -/
theorem ed_dget (hu : X.A.units + 1 < cLine) (ho : ED T X o ρ (.dct kvs)) (hi : ED T X jx ρ (.int i)) (h : valI kvs i = some v) (hs : NoSl jx := by intro _ _; rfl) : ED T X (.Subscript o jx pos) ρ (.int v) := fun F H σ Q f s k =>
  PE_w (pe_dget hu pe_w pe_w hs) (ho F H σ _ f s fun a F1 H1 f1 s1 r1 => by
    obtain ⟨b, rfl, hb⟩ := rp_dct.mp r1
    refine hi F1 H1 σ _ f1 (s.mono s1.ff) fun y F2 H2 f2 s2 r2 => ?_
    rw [rp_int.mp r2]
    have g := DGet.k (k := Sum.inl i) (f2.sub _ _ (s2.ff _ _ hb))
    rw [kvI_val, h] at g
    exact ⟨b, V.int v, rfl, g, k _ F2 H2 f2 (s1.trans0 s2) (rp_int.mpr rfl)⟩)
/-- i not in d -/
theorem td_dnotin (hu : X.A.units + 1 < cLine) (ho : ED T X o ρ (.dct kvs)) (hi : ED T X jx ρ (.int i)) (hm : behindInMarks .NotIn o = false := by first | exact nomark _ | rfl) : TD T X (.Compare jx [.NotIn] [o] pos) ρ (!(valI kvs i).isSome) := fun F H σ Q f s k =>
  PT_w (pt_cmp (pc_dnotin hu pe_w pe_w) hm) (hi F H σ _ f s fun y F1 H1 f1 s1 r1 => ho F1 H1 σ _ f1 (s.mono s1.ff) fun a F2 H2 f2 s2 r2 => by
    obtain ⟨b, rfl, hb⟩ := rp_dct.mp r2
    rw [rp_int.mp r1]
    have g := DGet.k (k := Sum.inl i) (f2.sub _ _ hb)
    rw [kvI_val] at g
    refine ⟨b, _, rfl, g, ?_⟩
    rw [Option.isSome_map]
    exact ⟨_, rfl, k F2 H2 f2 (s1.trans0 s2)⟩)
/-- d != d2, of the same entries -/
theorem kd_neDict {ks ls : KI} (hu : X.A.units < cLine) (h : SameD ks ls) : KD T X .NotEq (.dct ks) (.dct ls) false := ⟨_, op_ne_dictA hu, fun F H x y Q f r1 r2 k => by
  obtain ⟨a, rfl, ha⟩ := rp_dct.mp r1
  obtain ⟨b, rfl, hb⟩ := rp_dct.mp r2
  refine ⟨a, b, kvI ks, kvI ls, rfl, rfl, f.sub _ _ ha, f.sub _ _ hb, by rw [kvI_len, kvI_len]; exact h.len, fun p hp => ?_, k _ F H f (Stp.refl _ _ _) (rp_bl.mpr rfl)⟩
  obtain ⟨z, hz, rfl⟩ := List.mem_map.mp hp
  exact ⟨by rw [kvI_val, h.all z hz]; rfl, rfl⟩⟩
end
end BL
set_option maxHeartbeats 4000000
/-! defs: fractions -/
namespace BL
open PySem PySem.Spec PyProof.Rows L2 Evl

/-! short words -/
/-- the module's names -/
structure En (W : Wo) : Prop where
  n_abs : W.mg "abs" = none
  n_all : W.mg "all" = none
  n_any : W.mg "any" = none
  n_bool : W.mg "bool" = none
  n_dict : W.mg "dict" = none
  n_enumerate : W.mg "enumerate" = none
  n_int : W.mg "int" = none
  n_isinstance : W.mg "isinstance" = none
  n_len : W.mg "len" = none
  n_list : W.mg "list" = none
  n_max : W.mg "max" = none
  n_min : W.mg "min" = none
  n_range : W.mg "range" = none
  n_reversed : W.mg "reversed" = none
  n_set : W.mg "set" = none
  n_sorted : W.mg "sorted" = none
  n_str : W.mg "str" = none
  n_sum : W.mg "sum" = none
  n_tuple : W.mg "tuple" = none
  n_zip : W.mg "zip" = none
  g_NOUGHT : Glo W.K W.mg "NOUGHT" (fr 0 1)
  g_WAYS : Glo W.K W.mg "WAYS" (.tup ((["free", "bound"] : List Str).map .str))
  g_LETTERS : Glo W.K W.mg "LETTERS" (.str "abcdefghijklmnopqrstuvwxyz")
  g_MOST_STRETCHES : Glo W.K W.mg "MOST_STRETCHES" (.int 24)
  g_MOST_LAID : Glo W.K W.mg "MOST_LAID" (.int 200000)
  g_LONGEST_NAME : Glo W.K W.mg "LONGEST_NAME" (.int 8)
  g_MOST_TONES : Glo W.K W.mg "MOST_TONES" (.int 200)
  g_LOUDEST_TONE : Glo W.K W.mg "LOUDEST_TONE" (.int 100000)
  g_MOST_CORNERS : Glo W.K W.mg "MOST_CORNERS" (.int 12)
  g_MOST_NUMBER : Glo W.K W.mg "MOST_NUMBER" (.int 99999)
  g_LAST_STEP : Glo W.K W.mg "LAST_STEP" (.int 100000)
  g_MOST_LANES : Glo W.K W.mg "MOST_LANES" (.int 12)
  g_MOST_TAKES : Glo W.K W.mg "MOST_TAKES" (.int 12)
  g_MOST_PIECES : Glo W.K W.mg "MOST_PIECES" (.int 60)
  g_PIECE_PARTS : Glo W.K W.mg "PIECE_PARTS" (.int 8)
section
variable {T : Tb} {X : Cx} {ρ : Rho} {e : Expr} {i : Int} {s : Str} {ds : List Dt} {pos p p2 : Pos}
theorem isi_ii (Z : En (Cx.wo X)) (h : ED T X e ρ (.int i)) (hg : Gl X "isinstance" := by rfl) (hgn : Gl X "int" := by rfl) (he : starEach [e, .Name "int" p2] X.env = (false, eval e X.env) :: starEach [.Name "int" p2] X.env := by exact st_any rfl)
    (he2 : starEach [.Name "int" p2] X.env = (false, eval (.Name "int" p2) X.env) :: starEach [] X.env := by rfl) (hpl : (backTo pos (starEach [.Name "int" p2] X.env)).any (·.1) = false := by rfl) : ED T X (.Call (.Name "isinstance" p) [e, .Name "int" p2] [] pos) ρ (.bl true) :=
  ed_isi (n := "int") h rfl kit_ii Z.n_isinstance Z.n_int boot_int hg hgn (by decide) (by decide) he he2 hpl
theorem isi_ib (Z : En (Cx.wo X)) (h : ED T X e ρ (.int i)) (hg : Gl X "isinstance" := by rfl) (hgn : Gl X "bool" := by rfl) (he : starEach [e, .Name "bool" p2] X.env = (false, eval e X.env) :: starEach [.Name "bool" p2] X.env := by exact st_any rfl)
    (he2 : starEach [.Name "bool" p2] X.env = (false, eval (.Name "bool" p2) X.env) :: starEach [] X.env := by rfl) (hpl : (backTo pos (starEach [.Name "bool" p2] X.env)).any (·.1) = false := by rfl) : ED T X (.Call (.Name "isinstance" p) [e, .Name "bool" p2] [] pos) ρ (.bl false) :=
  ed_isi (n := "bool") h rfl kit_ib Z.n_isinstance Z.n_bool (by decide +kernel) hg hgn (by decide) (by decide) he he2 hpl
theorem isi_ss (Z : En (Cx.wo X)) (h : ED T X e ρ (.str s)) (hg : Gl X "isinstance" := by rfl) (hgn : Gl X "str" := by rfl) (he : starEach [e, .Name "str" p2] X.env = (false, eval e X.env) :: starEach [.Name "str" p2] X.env := by exact st_any rfl)
    (he2 : starEach [.Name "str" p2] X.env = (false, eval (.Name "str" p2) X.env) :: starEach [] X.env := by rfl) (hpl : (backTo pos (starEach [.Name "str" p2] X.env)).any (·.1) = false := by rfl) : ED T X (.Call (.Name "isinstance" p) [e, .Name "str" p2] [] pos) ρ (.bl true) :=
  ed_isi (n := "str") h rfl kit_ss Z.n_isinstance Z.n_str (by decide +kernel) hg hgn (by decide) (by decide) he he2 hpl
theorem isi_tt (Z : En (Cx.wo X)) (h : ED T X e ρ (.tup ds)) (hg : Gl X "isinstance" := by rfl) (hgn : Gl X "tuple" := by rfl) (he : starEach [e, .Name "tuple" p2] X.env = (false, eval e X.env) :: starEach [.Name "tuple" p2] X.env := by exact st_any rfl)
    (he2 : starEach [.Name "tuple" p2] X.env = (false, eval (.Name "tuple" p2) X.env) :: starEach [] X.env := by rfl) (hpl : (backTo pos (starEach [.Name "tuple" p2] X.env)).any (·.1) = false := by rfl) : ED T X (.Call (.Name "isinstance" p) [e, .Name "tuple" p2] [] pos) ρ (.bl true) :=
  ed_isi (n := "tuple") h rfl kit_tt Z.n_isinstance Z.n_tuple boot_tuple hg hgn (by decide) (by decide) he he2 hpl
end

inductive R_is_whole : List Dt → Dt → Prop where
  | mk {i : Int} : R_is_whole [.int i] (.bl true)
inductive R_is_from : List Dt → Dt → Prop where
  | mk {i a b : Int} : R_is_from [.int i, .int a, .int b] (.bl (decide (a ≤ i) && decide (i ≤ b)))
inductive R_divisor : List Dt → Dt → Prop where
  | mk {a b : Int} : R_divisor [.int a, .int b] (.int (gcdI a b))
inductive R_lowest : List Dt → Dt → Prop where
  | mk {t b : Int} {n : Nat} (h0 : 0 < b) (hb : Bt n b) (hn : n ≤ 8000) : R_lowest [.int t, .int b] (frp (lowF t b))
inductive R_is_fraction : List Dt → Dt → Prop where
  | mk {a b : Int} (h : Fv a b) : R_is_fraction [fr a b] (.bl true)
inductive R_is_not_below : List Dt → Dt → Prop where
  | mk {a b : Int} (h : Fv a b) (h0 : 0 ≤ a) : R_is_not_below [fr a b] (.bl true)
inductive R_is_above : List Dt → Dt → Prop where
  | mk {a b : Int} (h : Fv a b) (h0 : 0 < a) : R_is_above [fr a b] (.bl true)
inductive R_fraction : List Dt → Dt → Prop where
  | mk {t b : Int} {n : Nat} (h0 : 0 < b) (hb : Bt n b) (hn : n ≤ 8000) : R_fraction [.int t, .int b] (frp (lowF t b))
inductive R_plus : List Dt → Dt → Prop where
  | mk {a b c e : Int} {m n : Nat} (h1 : FB m a b) (h2 : FB n c e) (h : m + n ≤ 8000) : R_plus [fr a b, fr c e] (frp (plusF (a, b) (c, e)))
inductive R_minus : List Dt → Dt → Prop where
  | mk {a b c e : Int} {m n : Nat} (h1 : FB m a b) (h2 : FB n c e) (h : m + n ≤ 8000) : R_minus [fr a b, fr c e] (frp (minusF (a, b) (c, e)))
inductive R_times : List Dt → Dt → Prop where
  | mk {a b c e : Int} {m n : Nat} (h1 : FB m a b) (h2 : FB n c e) (h : m + n ≤ 8000) : R_times [fr a b, fr c e] (frp (timesF (a, b) (c, e)))
inductive R_over : List Dt → Dt → Prop where
  | mk {a b c e : Int} {m n : Nat} (h1 : FB m a b) (h2 : FB n c e) (hc : 0 < c) (h : m + n ≤ 8000) : R_over [fr a b, fr c e] (frp (overF (a, b) (c, e)))

inductive R_is_less : List Dt → Dt → Prop where
  | mk {a b c e : Int} {m n : Nat} (h1 : FB m a b) (h2 : FB n c e) (h : m + n ≤ 8000) : R_is_less [fr a b, fr c e] (.bl (lessB (a, b) (c, e)))
inductive R_floor_of : List Dt → Dt → Prop where
  | mk {a b : Int} {m : Nat} (h1 : FB m a b) (h : m ≤ 8000) : R_floor_of [fr a b] (.int (a / b))
inductive R_as_fraction : List Dt → Dt → Prop where
  | mk {i : Int} : R_as_fraction [.int i] (fr i 1)
inductive R_part_way : List Dt → Dt → Prop where
  | mk {a b c e i j : Int} {m n k : Nat} (h1 : FB m a b) (h2 : FB n c e) (h3 : FB k i j) (h : m + n + m + 1 + k ≤ 8000) : R_part_way [fr a b, fr c e, fr i j] (frp (partF (a, b) (c, e) (i, j)))

section
variable {W : Wo} {T : Tb}
theorem c_is_whole (Z : En W) (A : At W "is_whole" s_is_whole) : Cal W T 1 "is_whole" P_is_whole R_is_whole :=
  cal_of A sc_is_whole bn_is_whole fun f cdv Ar outer s H E ds d hr g hl => by
    cases g with | mk =>
    exact ws_one (w1_retp (ed_and (isi_ii Z (ev 0)) fun _ => ed_one (ed_not (isi_ib Z (ev 0)))) rfl)
theorem c_is_from (Z : En W) (A : At W "is_from" s_is_from) (L1 : Cal W T 1 "is_whole" P_is_whole R_is_whole) : Cal W T 2 "is_from" P_is_from R_is_from :=
  cal_of A sc_is_from bn_is_from fun f cdv Ar outer s H E ds d hr g hl => by
    cases g with | mk =>
    exact ws_one (w1_retp (ed_and (ed_call L1 hr (by rfl) (ad_cons (ev 0) ad_nil) .mk) fun _ => ed_one (ed_chain kd_le kd_le (ev 1) (ev 0) (ev 2))) (by rw [Bool.true_and]))
theorem gcd_step {a b : Int} : gcdI a b = gcdI b (a % b) := by
  unfold gcdI
  rw [Int.gcd_comm a b]
  congr 1
  conv => lhs; rw [← Int.emod_add_mul_ediv a b]
  rw [Int.gcd_add_mul_left_right]
theorem c_divisor (Z : En W) (A : At W "divisor" s_divisor) : Cal W T 1 "divisor" P_divisor R_divisor :=
  cal_of A sc_divisor bn_divisor fun f cdv Ar outer s H E ds d hr g hl => by
    cases g with | @mk a b =>
    refine ws_cons (w1_par (i := 0) (j := 1) (wa_p (ad_cons (ed_b (bd_abs Z.n_abs) (by rfl) (ad_cons (ev 0) ad_nil)) (ad_cons (ed_b (bd_abs Z.n_abs) (by rfl) (ad_cons (ev 1) ad_nil)) ad_nil)) ⟨_, _, rfl, ?_⟩) rfl sc_divisor.nd rfl rfl (by decide) rfl rfl (by rfl))
    have e1 : ∀ x : Int, (if x < 0 then -x else x) = (x.natAbs : Int) := fun x => by split <;> omega
    refine ws_cons (w1_while PassesOwn.never (fun n ρ' M' => ∃ x y : Int, ρ' = [some (.int x), some (.int y)] ∧ 0 ≤ x ∧ 0 ≤ y ∧ n = y.toNat ∧ gcdI x y = gcdI a b) _ ⟨_, _, rfl, ?_, ?_, rfl, ?_⟩ ?_)
    · rw [e1]; omega
    · rw [e1]; omega
    · rw [e1, e1]; unfold gcdI; rw [Int.gcd_natCast_natCast]; rfl
    · rintro n ρ' M' ⟨x, y, rfl, hx, hy, rfl, hg⟩
      refine wt_p (td_k kd_gt (ev 1) ed_int) ?_
      by_cases h : 0 < y
      · rw [if_pos (decide_eq_true h)]
        refine ws_one (w1_par (i := 0) (j := 1) (wa_p (ad_cons (ev 1) (ad_cons (ed_mod (ev 0) (ev 1) h) ad_nil)) ⟨_, _, rfl, ?_⟩) rfl sc_divisor.nd rfl rfl (by decide) rfl rfl (by rfl))
        have m0 := Int.emod_nonneg x (show y ≠ 0 by omega)
        have m1 := Int.emod_lt_of_pos x h
        exact ⟨(x % y).toNat, by omega, y, x % y, rfl, hy, m0, rfl, by rw [← gcd_step]; exact hg⟩
      · rw [if_neg (by simpa using h)]
        have y0 : y = 0 := by omega
        subst y0
        refine ws_one (w1_retp (ev 0) ?_)
        have e : gcdI x 0 = x := by unfold gcdI; rw [Int.gcd_zero]; omega
        show Dt.int x = .int (gcdI a b)
        rw [← hg, e]
theorem c_lowest (Z : En W) (A : At W "lowest" s_lowest) (L1 : Cal W T 1 "divisor" P_divisor R_divisor) : Cal W T 2 "lowest" P_lowest R_lowest :=
  cal_of A sc_lowest bn_lowest fun f cdv Ar outer s H E ds d hr g hl => by
    cases g with | @mk t b n h0 hb hn =>
    have hg : 0 < gcdI t b := gcdI_pos h0
    have hgb : Bt n (gcdI t b) := by
      have := Int.le_of_dvd h0 (gcdI_dvd_r t b)
      exact hb.of_le (by omega) this
    refine ws_cons (w1_setp (ix := 2) (ed_call L1 hr (by rfl) (ad_cons (ev 0) (ad_cons (ev 1) ad_nil)) .mk) ?_ sc_lowest.nd rfl (.inl rfl))
    exact ws_one (w1_retp (ed_tup (ad_cons (ed_fdiv (ev 0) (ev 2) hg hgb) (ad_cons (ed_fdiv (ev 1) (ev 2) hg hgb) ad_nil))) rfl)
theorem c_is_fraction (Z : En W) (A : At W "is_fraction" s_is_fraction) (L1 : Cal W T 1 "is_whole" P_is_whole R_is_whole) (L2 : Cal W T 1 "divisor" P_divisor R_divisor) : Cal W T 2 "is_fraction" P_is_fraction R_is_fraction :=
  cal_of A sc_is_fraction bn_is_fraction fun f cdv Ar outer s H E ds d hr g hl => by
    cases g with | @mk a b h =>
    refine ws_cons (w1_ifF (TD.is (td_w (wd_or (td_not (td_val (isi_tt Z (ev 0)))) fun _ => wd_or (td_k kd_neI (ed_b (bd_lenT Z.n_len) (by rfl) (ad_cons (ev 0) ad_nil)) ed_int) fun _ =>
      wd_or (td_not (td_val (ed_call L1 (hr.mono (by decide)) (by rfl) (ad_cons (ed_ixT (ev 0) ed_int rfl) ad_nil) .mk))) fun _ => wd_or1 (td_not (td_val (ed_call L1 (hr.mono (by decide)) (by rfl) (ad_cons (ed_ixT (ev 0) ed_int rfl) ad_nil) .mk))))) (by rfl)) ?_)
    refine ws_nil (ws_one (w1_retp (ed_and (ed_k kd_gt (ed_ixT (ev 0) ed_int rfl) ed_int) fun _ => ed_one (ed_k kd_eqI (ed_call L2 hr (by rfl) (ad_cons (ed_ixT (ev 0) ed_int rfl) (ad_cons (ed_ixT (ev 0) ed_int rfl) ad_nil)) .mk) ed_int)) ?_))
    rw [decide_eq_true h.ps, h.cop]
    rfl
theorem c_is_not_below (Z : En W) (A : At W "is_not_below" s_is_not_below) (L1 : Cal W T 2 "is_fraction" P_is_fraction R_is_fraction) : Cal W T 3 "is_not_below" P_is_not_below R_is_not_below :=
  cal_of A sc_is_not_below bn_is_not_below fun f cdv Ar outer s H E ds d hr g hl => by
    cases g with | @mk a b h h0 =>
    refine ws_one (w1_retp (ed_and (ed_call L1 hr (by rfl) (ad_cons (ev 0) ad_nil) (.mk h)) fun _ => ed_one (ed_k kd_ge (ed_ixT (ev 0) ed_int rfl) ed_int)) ?_)
    rw [decide_eq_true h0]; rfl
theorem c_is_above (Z : En W) (A : At W "is_above" s_is_above) (L1 : Cal W T 2 "is_fraction" P_is_fraction R_is_fraction) : Cal W T 3 "is_above" P_is_above R_is_above :=
  cal_of A sc_is_above bn_is_above fun f cdv Ar outer s H E ds d hr g hl => by
    cases g with | @mk a b h h0 =>
    refine ws_one (w1_retp (ed_and (ed_call L1 hr (by rfl) (ad_cons (ev 0) ad_nil) (.mk h)) fun _ => ed_one (ed_k kd_gt (ed_ixT (ev 0) ed_int rfl) ed_int)) ?_)
    rw [decide_eq_true h0]; rfl
theorem c_fraction (Z : En W) (A : At W "fraction" s_fraction) (L1 : Cal W T 1 "is_whole" P_is_whole R_is_whole) (L2 : Cal W T 2 "lowest" P_lowest R_lowest) : Cal W T 3 "fraction" P_fraction R_fraction :=
  cal_of A sc_fraction bn_fraction fun f cdv Ar outer s H E ds d hr g hl => by
    cases g with | @mk t b n h0 hb hn =>
    have h1 : decide (b = 0) = false := decide_eq_false (by omega)
    have h2 : decide (b < 0) = false := decide_eq_false (by omega)
    refine ws_cons (w1_ifF ((td_w (wd_or (td_not (td_val (ed_call L1 (hr.mono (by decide)) (by rfl) (ad_cons (ev 0) ad_nil) .mk))) fun _ => wd_or (td_not (td_val (ed_call L1 (hr.mono (by decide)) (by rfl) (ad_cons (ev 1) ad_nil) .mk))) fun _ => wd_or1 (td_k kd_eqI (ev 1) ed_int))).is (by rw [h1]; rfl)) ?_)
    refine ws_nil (ws_cons (w1_ifF ((td_k kd_lt (ev 1) ed_int).is h2) ?_))
    exact ws_nil (ws_one (w1_retp (ed_call L2 hr (by rfl) (ad_cons (ev 0) (ad_cons (ev 1) ad_nil)) (.mk h0 hb hn)) rfl))
theorem c_plus (Z : En W) (A : At W "plus" s_plus) (L1 : Cal W T 2 "lowest" P_lowest R_lowest) : Cal W T 3 "plus" P_plus R_plus :=
  cal_of A sc_plus bn_plus fun f cdv Ar outer s H E ds d hr g hl => by
    cases g with | mk h1 h2 h =>
    exact ws_one (w1_retp (ed_call L1 hr (by rfl) (ad_cons (ed_add (ed_mul (ed_ixT (ev 0) ed_int rfl) (ed_ixT (ev 1) ed_int rfl) h1.tp h2.bt) (ed_mul (ed_ixT (ev 1) ed_int rfl) (ed_ixT (ev 0) ed_int rfl) h2.tp h1.bt)) (ad_cons (ed_mul (ed_ixT (ev 0) ed_int rfl) (ed_ixT (ev 1) ed_int rfl) h1.bt h2.bt) ad_nil)) (.mk (Int.mul_pos h1.ps h2.ps) (h1.bt.mul h2.bt) h)) rfl)
theorem c_minus (Z : En W) (A : At W "minus" s_minus) (L1 : Cal W T 2 "lowest" P_lowest R_lowest) : Cal W T 3 "minus" P_minus R_minus :=
  cal_of A sc_minus bn_minus fun f cdv Ar outer s H E ds d hr g hl => by
    cases g with | mk h1 h2 h =>
    exact ws_one (w1_retp (ed_call L1 hr (by rfl) (ad_cons (ed_sub (ed_mul (ed_ixT (ev 0) ed_int rfl) (ed_ixT (ev 1) ed_int rfl) h1.tp h2.bt) (ed_mul (ed_ixT (ev 1) ed_int rfl) (ed_ixT (ev 0) ed_int rfl) h2.tp h1.bt)) (ad_cons (ed_mul (ed_ixT (ev 0) ed_int rfl) (ed_ixT (ev 1) ed_int rfl) h1.bt h2.bt) ad_nil)) (.mk (Int.mul_pos h1.ps h2.ps) (h1.bt.mul h2.bt) h)) rfl)
theorem c_times (Z : En W) (A : At W "times" s_times) (L1 : Cal W T 2 "lowest" P_lowest R_lowest) : Cal W T 3 "times" P_times R_times :=
  cal_of A sc_times bn_times fun f cdv Ar outer s H E ds d hr g hl => by
    cases g with | mk h1 h2 h =>
    exact ws_one (w1_retp (ed_call L1 hr (by rfl) (ad_cons (ed_mul (ed_ixT (ev 0) ed_int rfl) (ed_ixT (ev 1) ed_int rfl) h1.tp h2.tp) (ad_cons (ed_mul (ed_ixT (ev 0) ed_int rfl) (ed_ixT (ev 1) ed_int rfl) h1.bt h2.bt) ad_nil)) (.mk (Int.mul_pos h1.ps h2.ps) (h1.bt.mul h2.bt) h)) rfl)
theorem c_over (Z : En W) (A : At W "over" s_over) (L1 : Cal W T 3 "fraction" P_fraction R_fraction) : Cal W T 4 "over" P_over R_over :=
  cal_of A sc_over bn_over fun f cdv Ar outer s H E ds d hr g hl => by
    cases g with | mk h1 h2 hc h =>
    exact ws_one (w1_retp (ed_call L1 hr (by rfl) (ad_cons (ed_mul (ed_ixT (ev 0) ed_int rfl) (ed_ixT (ev 1) ed_int rfl) h1.tp h2.bt) (ad_cons (ed_mul (ed_ixT (ev 0) ed_int rfl) (ed_ixT (ev 1) ed_int rfl) h1.bt h2.tp) ad_nil)) (.mk (Int.mul_pos h1.ps hc) (h1.bt.mul h2.tp) h)) rfl)
theorem c_is_less (Z : En W) (A : At W "is_less" s_is_less) : Cal W T 1 "is_less" P_is_less R_is_less :=
  cal_of A sc_is_less bn_is_less fun f cdv Ar outer s H E ds d hr g hl => by
    cases g with | mk h1 h2 h =>
    exact ws_one (w1_retp (ed_k kd_lt (ed_mul (ed_ixT (ev 0) ed_int rfl) (ed_ixT (ev 1) ed_int rfl) h1.tp h2.bt) (ed_mul (ed_ixT (ev 1) ed_int rfl) (ed_ixT (ev 0) ed_int rfl) h2.tp h1.bt)) rfl)
theorem c_floor_of (Z : En W) (A : At W "floor_of" s_floor_of) : Cal W T 1 "floor_of" P_floor_of R_floor_of :=
  cal_of A sc_floor_of bn_floor_of fun f cdv Ar outer s H E ds d hr g hl => by
    cases g with | mk h1 h =>
    exact ws_one (w1_retp (ed_fdiv (ed_ixT (ev 0) ed_int rfl) (ed_ixT (ev 0) ed_int rfl) h1.ps h1.bt) rfl)
theorem c_as_fraction (Z : En W) (A : At W "as_fraction" s_as_fraction) : Cal W T 1 "as_fraction" P_as_fraction R_as_fraction :=
  cal_of A sc_as_fraction bn_as_fraction fun f cdv Ar outer s H E ds d hr g hl => by
    cases g with | mk =>
    exact ws_one (w1_retp (ed_tup (ad_cons (ev 0) (ad_cons ed_int ad_nil))) rfl)
theorem c_part_way (Z : En W) (A : At W "part_way" s_part_way) (L1 : Cal W T 3 "plus" P_plus R_plus) (L2 : Cal W T 3 "minus" P_minus R_minus) (L3 : Cal W T 3 "times" P_times R_times) : Cal W T 4 "part_way" P_part_way R_part_way :=
  cal_of A sc_part_way bn_part_way fun f cdv Ar outer s H E ds d hr g hl => by
    cases g with | mk h1 h2 h3 h =>
    have a := minusF_fb (x := (_, _)) (y := (_, _)) h2 h1
    have b := timesF_fb (y := (_, _)) a h3
    exact ws_one (w1_retp (ed_call L1 hr (by rfl) (ad_cons (ev 0) (ad_cons (ed_call L3 hr (by rfl) (ad_cons (ed_call L2 hr (by rfl) (ad_cons (ev 1) (ad_cons (ev 0) ad_nil)) (.mk h2 h1 (by omega))) (ad_cons (ev 2) ad_nil)) (.mk a h3 (by omega))) ad_nil)) (.mk h1 b (by omega))) rfl)
end
end BL
set_option maxHeartbeats 4000000
/-! defs: tempo -/
namespace BL
open PySem PySem.Spec PyProof.Rows L2 Evl
inductive R_is_stretch : List Dt → Dt → Prop where
  | mk {s : Sg} (h : GSg s) : R_is_stretch [s.d] (.bl true)
inductive R_growth : List Dt → Dt → Prop where
  | mk {s : Sg} (h : GSg s) : R_growth [s.d] (frp (growF s))
inductive R_go_on : List Dt → Dt → Prop where
  | mk {a b : Sg} (h : GSg a) (k : GSg b) : R_go_on [a.d, b.d] (.bl (goOnB a b))
inductive R_is_tempo : List Dt → Dt → Prop where
  | mk {t : Tm} (h : GTm t) : R_is_tempo [t.d] (.bl true)
inductive R_line_at : List Dt → Dt → Prop where
  | mk {s : Sg} {k : Int} (h : GSg s) (hk : Bt 64 k) : R_line_at [s.d, .int k] (frp (lineF s k))
inductive R_length_at : List Dt → Dt → Prop where
  | mk {t : Tm} {k : Int} (h : GTm t) (h0 : 0 ≤ k) (hk : Bt 60 k) : R_length_at [t.d, .int k] (frp (lengthF t.sts t.rest k))
inductive R_sum_ahead : List Dt → Dt → Prop where
  | mk {s : Sg} {k : Int} (h : GSg s) (hk : Bt 64 k) : R_sum_ahead [s.d, .int k] (frp (sumF s k))
inductive R_moment_by : List Dt → Dt → Prop where
  | mk {t : Tm} {x : Fr} (h : GTm t) (hx : FBp 40 x) (h0 : 0 ≤ x.1) : R_moment_by [t.d, frp x] (frp (momF t x))
inductive R_must_be_place : List Dt → Dt → Prop where
  | mk {a b : Int} (h : Fv a b) (h0 : 0 ≤ a) : R_must_be_place [fr a b] .non
theorem lengthF_cons {s : Sg} {ss : List Sg} {r : Fr} {k : Int} : lengthF (s :: ss) r k = if k < s.many then partF s.first s.last (lowF (2 * k + 1) (2 * s.many)) else lengthF ss r (k - s.many) := rfl
theorem momGo_snoc : ∀ {ss : List Sg} {s : Sg} {k : Int} {tot : Fr}, momGo (ss ++ [s]) k tot = (plusF (momGo ss k tot).1 (sumF s (minI (momGo ss k tot).2 s.many)), maxI 0 ((momGo ss k tot).2 - s.many))
  | [], s, k, tot => rfl
  | t :: ss, s, k, tot => by
    show momGo (ss ++ [s]) _ _ = _
    rw [momGo_snoc]
    rfl
theorem or_ne {a b c d : Dt} (h : eqD a b = false) (k : eqD c d = false) : Dt.bl (eqD a b || !eqD c d) = .bl true := by rw [h, k]; rfl
section
variable {W : Wo} {T : Tb}
theorem c_is_stretch (Z : En W) (A : At W "is_stretch" s_is_stretch) (C_is_above : Cal W T 3 "is_above" P_is_above R_is_above) (C_is_from : Cal W T 2 "is_from" P_is_from R_is_from) : Cal W T 4 "is_stretch" P_is_stretch R_is_stretch :=
  cal_of A sc_is_stretch bn_is_stretch fun f cdv Ar outer s H E ds d hr g hl => by
    cases g with | @mk sg h =>
    have hm := h.m1
    have hn := h.m2
    refine ws_cons (w1_ifF (TD.is (td_w (wd_or (td_not (td_val (isi_tt Z (ev 0)))) fun hq => (wd_or (td_k kd_neI (ed_b (bd_lenT Z.n_len) (by rfl) (ad_cons (ev 0) ad_nil)) ed_int) fun hq => (wd_or1 (td_not (td_val (ed_call C_is_from (hr.mono (by decide)) (by rfl) (ad_cons (ed_ixT (ev 0) ed_int rfl) (ad_cons ed_int (ad_cons (ed_glo Z.g_MOST_LAID (by rfl)) ad_nil))) .mk))))))) (by rw [decide_eq_true hm, decide_eq_true (show sg.many ≤ 200000 by omega)]; rfl)) (ws_nil ?_))
    refine ws_one (w1_retp (ed_and (ed_call C_is_above (hr.mono (by decide)) (by rfl) (ad_cons (ed_ixT (ev 0) ed_int rfl) ad_nil) (.mk h.f.fv h.f0)) fun hq => (ed_one (ed_call C_is_above (hr.mono (by decide)) (by rfl) (ad_cons (ed_ixT (ev 0) ed_int rfl) ad_nil) (.mk h.l.fv h.l0)))) rfl)
theorem c_growth (Z : En W) (A : At W "growth" s_growth) (C_over : Cal W T 4 "over" P_over R_over) (C_minus : Cal W T 3 "minus" P_minus R_minus) (C_as_fraction : Cal W T 1 "as_fraction" P_as_fraction R_as_fraction) : Cal W T 5 "growth" P_growth R_growth :=
  cal_of A sc_growth bn_growth fun f cdv Ar outer s H E ds d hr g hl => by
    cases g with | @mk sg h =>
    obtain ⟨a, b, c⟩ := growF_ok h
    refine ws_one (w1_retp (ed_call C_over (hr.mono (by decide)) (by rfl) (ad_cons (ed_call C_minus (hr.mono (by decide)) (by rfl) (ad_cons (ed_ixT (ev 0) ed_int rfl) (ad_cons (ed_ixT (ev 0) ed_int rfl) ad_nil)) (.mk h.l.fb h.f.fb (by decide))) (ad_cons (ed_call C_as_fraction (hr.mono (by decide)) (by rfl) (ad_cons (ed_ixT (ev 0) ed_int rfl) ad_nil) .mk) ad_nil)) (.mk a b (by have := h.m1; show 0 < sg.many; omega) (by decide))) rfl)
theorem c_go_on (Z : En W) (A : At W "go_on" s_go_on) (C_growth : Cal W T 5 "growth" P_growth R_growth) : Cal W T 6 "go_on" P_go_on R_go_on :=
  cal_of A sc_go_on bn_go_on fun f cdv Ar outer s H E ds d hr g hl => by
    cases g with | @mk a b h k =>
    refine ws_one (w1_retp (ED.is (ed_and (ed_eqD (ed_ixT (ev 0) ed_int rfl) (ed_ixT (ev 1) ed_int rfl) (by exact cln_fr) (by exact cln_fr) hr.units) fun hq => (ed_one (ed_eqD (ed_call C_growth (hr.mono (by decide)) (by rfl) (ad_cons (ev 0) ad_nil) (.mk h)) (ed_call C_growth (hr.mono (by decide)) (by rfl) (ad_cons (ev 1) ad_nil) (.mk k)) (by exact cln_fr) (by exact cln_fr) hr.units))) (by rw [eqD_fr, eqD_fr]; rfl)) rfl)
theorem c_is_tempo (Z : En W) (A : At W "is_tempo" s_is_tempo) (C_is_above : Cal W T 3 "is_above" P_is_above R_is_above) (C_go_on : Cal W T 6 "go_on" P_go_on R_go_on) (C_is_stretch : Cal W T 4 "is_stretch" P_is_stretch R_is_stretch) : Cal W T 7 "is_tempo" P_is_tempo R_is_tempo :=
  cal_of A sc_is_tempo bn_is_tempo fun f cdv Ar outer s H E ds d hr g hl => by
    cases g with | @mk t h =>
    refine ws_cons (w1_ifF (TD.is (td_w (wd_or (td_not (td_val (isi_tt Z (ev 0)))) fun hq => (wd_or (td_k kd_neI (ed_b (bd_lenT Z.n_len) (by rfl) (ad_cons (ev 0) ad_nil)) ed_int) fun hq => (wd_or (td_not (td_val (isi_tt Z (ed_ixT (ev 0) ed_int rfl)))) fun hq => (wd_or1 (td_not (td_val (ed_call C_is_above (hr.mono (by decide)) (by rfl) (ad_cons (ed_ixT (ev 0) ed_int rfl) ad_nil) (.mk h.r.fv h.r0))))))))) (by rfl)) (ws_nil ?_))
    refine ws_cons (w1_unpp (ev 0) rfl ?_ rfl (tgc (i := 1) (tgc (i := 2) Tg.nil (by exact sc_is_tempo.nd)) (by exact sc_is_tempo.nd)))
    have hl := h.len
    refine ws_cons (w1_ifF (TD.is (td_w (wd_or (td_k kd_gt (ed_b (bd_lenT Z.n_len) (by rfl) (ad_cons (ev 1) ad_nil)) (ed_glo Z.g_MOST_STRETCHES (by rfl))) fun hq => (wd_or1 (td_not (td_val (ed_all0 (j := 3) Z.n_all (iw_tupp (ev 1) ⟨rfl, rfl⟩) rfl (by exact sc_is_tempo.nd) (by show BlkOk N_is_tempo (defScope s_is_tempo) _ _; exact blkOk_by (by decide +kernel)) (pgB (by exact sc_is_tempo.nd) rfl rfl) (by omega) (fun x0 h0 _ _ _ _ _ => ED.is (ed_call C_is_stretch (hr.mono (by decide)) (by rfl) (ad_cons (ev 3) ad_nil) (.mk (h.sg x0 h0))) rfl))))))) (by rw [List.length_map, decide_eq_false (by omega)]; rfl)) (ws_nil ?_))
    have hs : (t.sts.map Sg.many).sum ≤ 27000 := by
      have : ∀ ss : List Sg, (∀ s ∈ ss, GSg s) → (ss.map Sg.many).sum ≤ 9000 * ss.length := by
        intro ss
        induction ss with
        | nil => intro _; simp
        | cons s ss ih =>
          intro q
          have := ih fun s hs => q s (by simp [hs])
          have := (q s (by simp)).m2
          simp only [List.map_cons, List.sum_cons, List.length_cons]
          omega
      have := this t.sts h.sg
      omega
    refine ws_cons (w1_ifF (TD.is (td_k kd_gt (ed_b (bd_sum Z.n_sum rfl) (by rfl) (ad_cons (ED.is (ed_lc0 (j := 3) (iw_tupp (ev 1) ⟨rfl, rfl⟩) rfl (by exact sc_is_tempo.nd) (by show BlkOk N_is_tempo (defScope s_is_tempo) _ _; exact blkOk_by (by decide +kernel)) (pgB (by exact sc_is_tempo.nd) rfl rfl) (by omega) (fun x0 h0 _ _ _ _ _ => (ed_ixT (ev 3) ed_int rfl))) (show _ = Dt.lst ((t.sts.map Sg.many).map .int) by rw [List.map_map]; rfl)) ad_nil)) (ed_glo Z.g_MOST_LAID (by rfl))) (decide_eq_false (by omega))) (ws_nil ?_))
    have hx : ∀ i ∈ List.range ((t.sts.map Sg.d).length - 1 : Int).toNat, ∃ a b : Sg, t.sts[i]? = some a ∧ t.sts[i + 1]? = some b := by
      intro i hi
      rw [List.mem_range, List.length_map] at hi
      exact ⟨_, _, List.getElem?_eq_getElem (by omega), List.getElem?_eq_getElem (by omega)⟩
    refine ws_cons (w1_ifF (TD.is (td_k kd_inBL ed_bl (ED.is (d' := .lst ((List.replicate ((t.sts.map Sg.d).length - 1 : Int).toNat false).map .bl)) (d := .lst ((List.range ((t.sts.map Sg.d).length - 1 : Int).toNat).map fun _ => .bl false)) ?_ ?_)) ?_) (ws_nil ?_))
    · refine (ed_lc0 (j := 4) (xs := List.range ((t.sts.map Sg.d).length - 1 : Int).toNat) (f := fun (i : Nat) => .int (1 + (i : Int))) (iw_rng2 (by rfl) Z.n_range (wa_p (ad_cons ed_int (ad_cons (ed_b (bd_lenT Z.n_len) (by rfl) (ad_cons (ev 1) ad_nil)) ad_nil)) ⟨_, _, rfl, ?_, rfl, rfl⟩)) rfl sc_is_tempo.nd (by show BlkOk N_is_tempo (defScope s_is_tempo) _ _; exact blkOk_by (by decide +kernel)) (pgB sc_is_tempo.nd rfl rfl) ?_ ?_)
      · rw [List.length_map]; refine ⟨?_, ?_, ?_, ?_⟩ <;> omega
      · rw [List.length_range, List.length_map]; omega
      · intro i hi s0 H0 C0 cl0 fp0
        obtain ⟨a, b, ha, hb⟩ := hx i hi
        have q := h.go i a b ha hb
        have ga := h.sg a (List.mem_of_getElem? ha)
        have gb := h.sg b (List.mem_of_getElem? hb)
        exact ED.is (ed_call C_go_on (hr.mono (by decide)) (by rfl) (ad_cons (ed_ixT (ev 1) (ed_sub (ev 4) ed_int) (atI_map (f := Sg.d) (j := i) (by omega) ha)) (ad_cons (ed_ixT (ev 1) (ev 4) (atI_map (f := Sg.d) (j := i + 1) (by omega) hb)) ad_nil)) (.mk ga gb)) (by rw [q])
    · simp [List.map_const']
    · refine decide_eq_false ?_
      intro z
      have := (List.mem_replicate.mp z).2
      cases this
    by_cases hn : t.sts = []
    · refine ws_one (w1_retp (ED.is (ed_or (t := true) (u := true) (ED.is (ed_eqD (da := .tup []) (db := .tup []) (ED.is (d := .tup (t.sts.map Sg.d)) (ev 1) (by rw [hn]; rfl)) (ed_tup ad_nil) cln_nil cln_nil hr.units) (by rw [eqD_t rfl])) fun z => by cases z) rfl) rfl)
    · have hg : t.sts.getLast? = some (t.sts.getLast hn) := List.getLast?_eq_some_getLast hn
      have hi : t.sts[t.sts.length - 1]? = some (t.sts.getLast hn) := by rw [← hg, List.getLast?_eq_getElem?]
      have he := h.end_ _ hg
      generalize t.sts.getLast hn = z at hg hi he
      have e1 : eqD (.tup (t.sts.map Sg.d)) (.tup []) = false := eqD_f fun w => hn (List.map_eq_nil_iff.mp (Dt.tup.inj w))
      have e2 : eqD (.tup [frp z.first, frp z.last]) (.tup [frp t.rest, frp t.rest]) = false := eqD_f fun w =>
        he ⟨frp_inj.mp (List.cons.inj (Dt.tup.inj w)).1, frp_inj.mp (List.cons.inj (List.cons.inj (Dt.tup.inj w)).2).1⟩
      refine ws_one (w1_retp (ED.is (ed_or (ed_eqD (ev 1) (ed_tup ad_nil) (by exact (cln_map fun s _ => cln_cons cln_int (cln_cons cln_fr (cln_cons cln_fr cln_nil)))) (by exact cln_nil) hr.units) fun hq => (ed_one (ed_neD (ed_slT (ed_ixT (ev 1) (ed_neg ed_int) (atI_last (f := Sg.d) hi)) (od_some ed_int) od_none (by exact of_decide_eq_true rfl)) (ed_tup (ad_cons (ev 2) (ad_cons (ev 2) ad_nil))) (by exact (cln_cons cln_fr (cln_cons cln_fr cln_nil))) (by exact (cln_cons cln_fr (cln_cons cln_fr cln_nil))) hr.units))) (or_ne e1 e2)) rfl)
theorem c_line_at (Z : En W) (A : At W "line_at" s_line_at) (C_part_way : Cal W T 4 "part_way" P_part_way R_part_way) (C_lowest : Cal W T 2 "lowest" P_lowest R_lowest) : Cal W T 5 "line_at" P_line_at R_line_at :=
  cal_of A sc_line_at bn_line_at fun f cdv Ar outer s H E ds d hr g hl => by
    cases g with | @mk sg k h hk =>
    have b := low_fb hk ((bt_many h).up (n := 64) (by decide)) (by have := h.m1; omega)
    have hp : 0 < sg.many := by have := h.m1; omega
    refine ws_one (w1_retp (ed_call C_part_way (hr.mono (by decide)) (by rfl) (ad_cons (ed_ixT (ev 0) ed_int rfl) (ad_cons (ed_ixT (ev 0) ed_int rfl) (ad_cons (ed_call C_lowest (hr.mono (by decide)) (by rfl) (ad_cons (ev 1) (ad_cons (ed_ixT (ev 0) ed_int rfl) ad_nil)) (.mk (n := 64) hp ((bt_many h).up (by decide)) (by decide))) ad_nil))) (.mk h.f.fb h.l.fb b (by decide))) rfl)
theorem c_sum_ahead (Z : En W) (A : At W "sum_ahead" s_sum_ahead) (C_plus : Cal W T 3 "plus" P_plus R_plus) (C_times : Cal W T 3 "times" P_times R_times) (C_line_at : Cal W T 5 "line_at" P_line_at R_line_at) (C_lowest : Cal W T 2 "lowest" P_lowest R_lowest) : Cal W T 6 "sum_ahead" P_sum_ahead R_sum_ahead :=
  cal_of A sc_sum_ahead bn_sum_ahead fun f cdv Ar outer s H E ds d hr g hl => by
    cases g with | @mk sg k h hk =>
    have b := lineF_fb h hk
    have c := low_fb hk (show Bt 64 2 by show (2 : Int).natAbs < 2 ^ 64; decide) (by decide)
    refine ws_cons (w1_setp (ix := 2) (ed_call C_plus (hr.mono (by decide)) (by rfl) (ad_cons (ed_ixT (ev 0) ed_int rfl) (ad_cons (ed_call C_line_at (hr.mono (by decide)) (by rfl) (ad_cons (ev 0) (ad_cons (ev 1) ad_nil)) (.mk h hk)) ad_nil)) (.mk h.f.fb b (by decide))) ?_ (by exact sc_sum_ahead.nd) (by rfl) (by first | exact .inl rfl | exact .inr rfl))
    refine ws_one (w1_retp (ed_call C_times (hr.mono (by decide)) (by rfl) (ad_cons (ev 2) (ad_cons (ed_call C_lowest (hr.mono (by decide)) (by rfl) (ad_cons (ev 1) (ad_cons ed_int ad_nil)) (.mk (n := 64) (by decide) (by show (2 : Int).natAbs < 2 ^ 64; decide) (by decide))) ad_nil)) (.mk (plusF_fb h.f.fb b) c (by decide))) rfl)
theorem c_must_be_place (Z : En W) (A : At W "must_be_place" s_must_be_place) (C_is_not_below : Cal W T 3 "is_not_below" P_is_not_below R_is_not_below) : Cal W T 4 "must_be_place" P_must_be_place R_must_be_place :=
  cal_of A sc_must_be_place bn_must_be_place fun f cdv Ar outer s H E ds d hr g hl => by
    cases g with | mk h h0 =>
    refine ws_one (w1_ifF (TD.is (td_not (td_val (ed_call C_is_not_below (hr.mono (by decide)) (by rfl) (ad_cons (ev 0) ad_nil) (.mk h h0)))) rfl) (ws_nil rfl))
theorem c_length_at (Z : En W) (A : At W "length_at" s_length_at) (C_part_way : Cal W T 4 "part_way" P_part_way R_part_way) (C_lowest : Cal W T 2 "lowest" P_lowest R_lowest) : Cal W T 5 "length_at" P_length_at R_length_at :=
  cal_of A sc_length_at bn_length_at fun f cdv Ar outer s H E ds d hr g hl => by
    cases g with | @mk t k h h0 hk =>
    have gen : ∀ (ss : List Sg) (n : Nat) (j : Int), t.sts.drop n = ss → True := fun _ _ _ _ => trivial
    refine ws_for (xs := t.sts) (f := Sg.d) (fun i => [some t.d, some (.int (k - ((t.sts.take i).map Sg.many).sum)), none]) (fun i M' => M' = [] ∧ 0 ≤ k - ((t.sts.take i).map Sg.many).sum ∧ lengthF t.sts t.rest k = lengthF (t.sts.drop i) t.rest (k - ((t.sts.take i).map Sg.many).sum)) rfl (tg_n (j := 2) sc_length_at.nd rfl (.inl rfl)) ?_ (iw_tupp (ed_ixT (ev 0) ed_int rfl) ⟨rfl, rfl, ?_⟩) ?_ ?_
    · exact ⟨rfl, by simp, trivial⟩
    · simpa using h0
    · rintro i sg M' ha ⟨rfl, hn, he⟩
      refine ⟨_, rfl, ?_⟩
      have hs := h.sg sg (List.mem_of_getElem? ha)
      have hm := hs.m1
      have hm2 := hs.m2
      have hi : i < t.sts.length := (List.getElem?_eq_some_iff.mp ha).1
      have hdr : t.sts.drop i = sg :: t.sts.drop (i + 1) := by
        rw [List.drop_eq_getElem_cons hi]
        congr 1
        exact (List.getElem?_eq_some_iff.mp ha).2
      have htk : ((t.sts.take (i + 1)).map Sg.many).sum = ((t.sts.take i).map Sg.many).sum + sg.many := by
        rw [List.take_add_one, ha]
        simp
      have hsum : 0 ≤ ((t.sts.take i).map Sg.many).sum := by
        have : ∀ ss : List Sg, (∀ s ∈ ss, GSg s) → 0 ≤ (ss.map Sg.many).sum := by
          intro ss
          induction ss with
          | nil => intro _; simp
          | cons s ss ih =>
            intro q
            have := ih fun s hs => q s (by simp [hs])
            have := (q s (by simp)).m1
            simp only [List.map_cons, List.sum_cons]
            omega
        exact this _ fun s hs => h.sg s (List.mem_of_mem_take hs)
      rw [hdr] at he
      rw [lengthF_cons] at he
      rw [htk]
      generalize ((t.sts.take i).map Sg.many).sum = w at *
      have hp := bt_pos hk
      refine ws_cons (w1_ifp (td_k kd_lt (ev 1) (ed_ixT (ev 2) ed_int rfl)) (fun hc => ?_) fun hc => ?_)
      · have hc' : k - w < sg.many := of_decide_eq_true hc
        rw [if_pos hc'] at he
        have b1 : Bt 64 (2 * (k - w) + 1) := bt_of (by simp at hp ⊢; omega) (by simp at hp ⊢; omega)
        have b2 : Bt 64 (2 * sg.many) := bt_of (by simp; omega) (by simp; omega)
        refine ws_one (w1_retp (ed_call C_part_way (hr.mono (by decide)) (by rfl) (ad_cons (ed_ixT (ev 2) ed_int rfl) (ad_cons (ed_ixT (ev 2) ed_int rfl) (ad_cons (ed_call C_lowest (hr.mono (by decide)) (by rfl) (ad_cons (ed_add (ed_mul ed_int (ev 1) (show Bt 2 2 by show (2 : Int).natAbs < 2 ^ 2; decide) (show Bt 61 (k - w) from bt_of (by simp at hp ⊢; omega) (by simp at hp ⊢; omega))) ed_int) (ad_cons (ed_mul ed_int (ed_ixT (ev 2) ed_int rfl) (show Bt 2 2 by show (2 : Int).natAbs < 2 ^ 2; decide) (bt_many hs)) ad_nil)) (.mk (by omega) b2 (by decide))) ad_nil))) (.mk hs.f.fb hs.l.fb (low_fb b1 b2 (by omega)) (by decide))) (congrArg frp he.symm))
      · have hc' : ¬ k - w < sg.many := of_decide_eq_false hc
        rw [if_neg hc'] at he
        refine ws_nil ?_
        refine ws_one (w1_setp (ix := 1) (ed_sub (ev 1) (ed_ixT (ev 2) ed_int rfl)) ⟨⟨rfl, by rw [show k - w - sg.many = k - (w + sg.many) by omega], trivial⟩, rfl, by omega, by rw [he]; congr 1; omega⟩ sc_length_at.nd rfl (.inl rfl))
    · rintro M' ⟨rfl, hn, he⟩
      rw [List.drop_length] at he
      refine ws_one (w1_retp (ed_ixT (ev 0) ed_int rfl) (congrArg frp he.symm))
theorem c_moment_by (Z : En W) (A : At W "moment_by" s_moment_by) (C_floor_of : Cal W T 1 "floor_of" P_floor_of R_floor_of) (C_minus : Cal W T 3 "minus" P_minus R_minus) (C_times : Cal W T 3 "times" P_times R_times) (C_plus : Cal W T 3 "plus" P_plus R_plus) (C_as_fraction : Cal W T 1 "as_fraction" P_as_fraction R_as_fraction) (C_length_at : Cal W T 5 "length_at" P_length_at R_length_at) (C_sum_ahead : Cal W T 6 "sum_ahead" P_sum_ahead R_sum_ahead) : Cal W T 7 "moment_by" P_moment_by R_moment_by :=
  cal_of A sc_moment_by bn_moment_by fun f cdv Ar outer s H E ds d hr g hl => by
    cases g with | @mk t x h hx h0 =>
    obtain ⟨f0, fb⟩ := floor_ok hx h0
    have hL := lengthF_fb (k := x.1 / x.2) h.sg h.r.fb f0 (fb.up (by decide))
    have hP := minusF_fb hx (as_fb fb (by decide))
    have hT := timesF_fb hL hP
    refine ws_cons (w1_setp (ix := 2) (ed_call C_floor_of (hr.mono (by decide)) (by rfl) (ad_cons (ev 1) ad_nil) (.mk hx (by decide))) ?_ (by exact sc_moment_by.nd) (by rfl) (by first | exact .inl rfl | exact .inr rfl))
    refine ws_cons (w1_setp (ix := 3) (ed_call C_minus (hr.mono (by decide)) (by rfl) (ad_cons (ev 1) (ad_cons (ed_call C_as_fraction (hr.mono (by decide)) (by rfl) (ad_cons (ev 2) ad_nil) .mk) ad_nil)) (.mk hx (as_fb fb (by decide)) (by decide))) ?_ (by exact sc_moment_by.nd) (by rfl) (by first | exact .inl rfl | exact .inr rfl))
    refine ws_cons (w1_setp (ix := 4) (ed_call C_times (hr.mono (by decide)) (by rfl) (ad_cons (ed_call C_length_at (hr.mono (by decide)) (by rfl) (ad_cons (ev 0) (ad_cons (ev 2) ad_nil)) (.mk h f0 (fb.up (by decide)))) (ad_cons (ev 3) ad_nil)) (.mk hL hP (by decide))) ?_ (by exact sc_moment_by.nd) (by rfl) (by first | exact .inl rfl | exact .inr rfl))
    generalize e0 : x.1 / x.2 = k at *
    generalize e1 : timesF (lengthF t.sts t.rest k) (minusF x (k, 1)) = t0 at *
    have hq : ∀ i, i ≤ 3 → FBp 1100 (momGo (t.sts.take i) k t0).1 ∧ 0 ≤ (momGo (t.sts.take i) k t0).2 ∧ Bt 60 (momGo (t.sts.take i) k t0).2 := by
      intro i hi
      have q := momGo_fb (ss := t.sts.take i) (fun s hs => h.sg s (List.mem_of_mem_take hs)) hT f0 (fb.up (by decide))
      refine ⟨q.1.up ?_, q.2⟩
      have := List.length_take_le i t.sts
      omega
    have hlen := h.len
    refine ws_for (xs := t.sts) (f := Sg.d) (fun i => [some t.d, some (frp x), some (.int (momGo (t.sts.take i) k t0).2), some (frp (minusF x (k, 1))), some (frp (momGo (t.sts.take i) k t0).1), none]) (fun i M' => M' = []) rfl (tg_n (j := 5) sc_moment_by.nd rfl (.inl rfl)) ?_ (iw_tupp (ed_ixT (ev 0) ed_int rfl) ⟨rfl, rfl⟩) ?_ ?_
    · exact ⟨rfl, rfl, by rw [List.take_zero]; rfl, rfl, by rw [List.take_zero]; rfl, trivial⟩
    · rintro i sg M' ha rfl
      refine ⟨_, rfl, ?_⟩
      have hs := h.sg sg (List.mem_of_getElem? ha)
      have hm := hs.m1
      have hm2 := hs.m2
      have hi : i < t.sts.length := (List.getElem?_eq_some_iff.mp ha).1
      have htk : momGo (t.sts.take (i + 1)) k t0 = (plusF (momGo (t.sts.take i) k t0).1 (sumF sg (minI (momGo (t.sts.take i) k t0).2 sg.many)), maxI 0 ((momGo (t.sts.take i) k t0).2 - sg.many)) := by
        rw [List.take_add_one, ha]
        exact momGo_snoc
      rw [htk]
      obtain ⟨q1, q2, q3⟩ := hq i (by omega)
      generalize momGo (t.sts.take i) k t0 = w at *
      have e2 : 0 ≤ minI w.2 sg.many ∧ minI w.2 sg.many ≤ w.2 := by unfold minI; split <;> omega
      have hb : Bt 64 (minI w.2 sg.many) := (q3.of_le e2.1 e2.2).up (by decide)
      refine ws_cons (w1_setp (ix := 4) (ed_call C_plus (hr.mono (by decide)) (by rfl) (ad_cons (ev 4) (ad_cons (ed_call C_sum_ahead (hr.mono (by decide)) (by rfl) (ad_cons (ev 5) (ad_cons (ed_b (bd_min Z.n_min rfl) (by rfl) (ad_cons (ev 2) (ad_cons (ed_ixT (ev 5) ed_int rfl) ad_nil))) ad_nil)) (.mk hs hb)) ad_nil)) (.mk q1 (sumF_fb hs hb) (by decide))) ?_ (by exact sc_moment_by.nd) (by rfl) (by first | exact .inl rfl | exact .inr rfl))
      refine ws_one (w1_setp (ix := 2) (ed_b (bd_max Z.n_max rfl) (by rfl) (ad_cons ed_int (ad_cons (ed_sub (ev 2) (ed_ixT (ev 5) ed_int rfl)) ad_nil))) ⟨⟨rfl, rfl, rfl, rfl, rfl, trivial⟩, rfl⟩ sc_moment_by.nd rfl (.inl rfl))
    · rintro M' rfl
      rw [List.take_length]
      have q := hq 3 (by decide)
      rw [List.take_of_length_le hlen] at q
      obtain ⟨q1, q2, q3⟩ := q
      have em : momF t x = plusF (momGo t.sts k t0).1 (timesF t.rest ((momGo t.sts k t0).2, 1)) := by
        unfold momF
        rw [e0, e1]
      rw [em]
      refine ws_one (w1_retp (ed_call C_plus (hr.mono (by decide)) (by rfl) (ad_cons (ev 4) (ad_cons (ed_call C_times (hr.mono (by decide)) (by rfl) (ad_cons (ed_ixT (ev 0) ed_int rfl) (ad_cons (ed_call C_as_fraction (hr.mono (by decide)) (by rfl) (ad_cons (ev 2) ad_nil) .mk) ad_nil)) (.mk h.r.fb (as_fb q3 (by decide)) (by decide))) ad_nil)) (.mk q1 (timesF_fb h.r.fb (as_fb q3 (by decide))) (by decide))) rfl)
end
end BL
set_option maxHeartbeats 4000000
/-! defs: what is a take, a shape, a piece, a lane -/
namespace BL
open PySem PySem.Spec PyProof.Rows L2 Evl
inductive R_is_name : List Dt → Dt → Prop where
  | mk {x : Str} (h : GN x) : R_is_name [.str x] (.bl true)
inductive R_are_tones : List Dt → Dt → Prop where
  | mk {t : Tk} (h : GTk t) : R_are_tones [.tup (t.tones.map .int)] (.bl true)
inductive R_is_take : List Dt → Dt → Prop where
  | mk {t : Tk} (h : GTk t) : R_is_take [t.d] (.bl true)
structure GCr (c : Cr) : Prop where
  a : Gf 32 c.1
  a0 : 0 ≤ c.1.1
  b : Gf 32 c.2
  b0 : 0 ≤ c.2.1
theorem GSp.gcr {m : Int} {s : Sp} (h : GSp m s) {c : Cr} (hc : c ∈ s) : GCr c := ⟨(h.cr c hc).1, (h.cr c hc).2.1, (h.cr c hc).2.2.1, (h.cr c hc).2.2.2⟩
inductive R_is_corner : List Dt → Dt → Prop where
  | mk {c : Cr} (h : GCr c) : R_is_corner [crD c] (.bl true)
def farF (a b : Fr) : Fr := (b.1 * a.2 - a.1 * b.2, a.2 * b.2)
inductive R_far_between : List Dt → Dt → Prop where
  | mk {a b c e : Int} (h1 : FB 32 a b) (h2 : FB 32 c e) : R_far_between [fr a b, fr c e] (frp (farF (a, b) (c, e)))
inductive R_lies_straight : List Dt → Dt → Prop where
  | mk {a b c : Cr} (h1 : GCr a) (h2 : GCr b) (h3 : GCr c) : R_lies_straight [crD a, crD b, crD c] (.bl (straightB a b c))
inductive R_is_shape : List Dt → Dt → Prop where
  | mk {m : Int} {s : Sp} (h : GSp m s) : R_is_shape [spD s] (.bl true)
inductive R_is_laid : List Dt → Dt → Prop where
  | mk {p : Pc} (h : GPc p) : R_is_laid [.int p.at_, .int p.many] (.bl true)
inductive R_is_piece : List Dt → Dt → Prop where
  | mk {p : Pc} (h : GPc p) : R_is_piece [p.d] (.bl true)
inductive R_is_lane : List Dt → Dt → Prop where
  | mk {l : Ln} (h : GLn l) : R_is_lane [l.d] (.bl true)
theorem letters : (("abcdefghijklmnopqrstuvwxyz" : Str).cps.toList) = List.range' 97 26 := by decide +kernel
theorem low_in {c : Nat} (h : isLow c = true) : decide (c ∈ ("abcdefghijklmnopqrstuvwxyz" : Str).cps.toList) = true := by
  refine decide_eq_true ?_
  rw [letters, List.mem_range']
  simp [isLow] at h
  exact ⟨c - 97, by omega, by omega⟩
theorem farF_bt {a b : Fr} (h1 : FBp 32 a) (h2 : FBp 32 b) : Bt 65 (farF a b).1 ∧ Bt 64 (farF a b).2 := ⟨Bt.sub (h2.tp.mul h1.bt) (h1.tp.mul h2.bt), h1.bt.mul h2.bt⟩
section
variable {W : Wo} {T : Tb}
theorem c_is_name (Z : En W) (A : At W "is_name" s_is_name)  : Cal W T 1 "is_name" P_is_name R_is_name :=
  cal_of A sc_is_name bn_is_name fun f cdv Ar outer s H E ds d hr g hl => by
    cases g with | @mk x h =>
    have h1 := h.l1
    have h2 := h.l2
    have hz : x.length ≤ sizeLine := Nat.le_trans h2 (by decide)
    refine ws_cons (w1_ifF (TD.is (td_w (wd_or (td_not (td_val (isi_ss Z (ev 0)))) fun hq => (wd_or1 (td_not (td_chain kd_le kd_le ed_int (ed_b (bd_lenS Z.n_len hz) (by rfl) (ad_cons (ev 0) ad_nil)) (ed_glo Z.g_LONGEST_NAME (by rfl))))))) (by rw [decide_eq_true (show (1 : Int) ≤ x.length by omega), decide_eq_true (show (x.length : Int) ≤ 8 by omega)]; rfl)) (ws_nil ?_))
    have hl : x.cps.toList.length ≤ 100000 := by have : x.cps.toList.length = x.length := rfl; omega
    refine ws_one (w1_retp (ed_all0 (j := 1) Z.n_all (iw_str (ev 0) ⟨rfl, rfl⟩) rfl (by exact sc_is_name.nd) (by show BlkOk N_is_name (defScope s_is_name) _ _; exact blkOk_by (by decide +kernel)) (pgB (by exact sc_is_name.nd) rfl rfl) hl (fun x0 h0 _ _ _ _ _ => ED.is (ed_k kd_sign (ev 1) (ed_glo Z.g_LETTERS (by rfl))) (congrArg Dt.bl (low_in (h.low _ h0))))) rfl)
theorem c_are_tones (Z : En W) (A : At W "are_tones" s_are_tones) (C_is_from : Cal W T 2 "is_from" P_is_from R_is_from) : Cal W T 3 "are_tones" P_are_tones R_are_tones :=
  cal_of A sc_are_tones bn_are_tones fun f cdv Ar outer s H E ds d hr g hl => by
    cases g with | @mk t h =>
    have h1 := h.l1
    have h2 := h.l2
    have hx : ∀ i ∈ t.tones, Dt.bl (decide (0 - 100000 ≤ i) && decide (i ≤ 100000)) = .bl true := fun i hi => by
      have := h.tn i hi
      rw [decide_eq_true (by omega), decide_eq_true (by omega)]; rfl
    refine ws_cons (w1_ifF (TD.is (td_w (wd_or (td_not (td_val (isi_tt Z (ev 0)))) fun hq => (wd_or1 (td_not (td_chain kd_le kd_le ed_int (ed_b (bd_lenT Z.n_len) (by rfl) (ad_cons (ev 0) ad_nil)) (ed_glo Z.g_MOST_TONES (by rfl))))))) (by rw [List.length_map, decide_eq_true (show (1 : Int) ≤ t.tones.length by omega), decide_eq_true (show (t.tones.length : Int) ≤ 200 by omega)]; rfl)) (ws_nil ?_))
    refine ws_one (w1_retp (ed_all0 (j := 1) Z.n_all (iw_tupp (ev 0) ⟨rfl, rfl⟩) rfl (by exact sc_are_tones.nd) (by show BlkOk N_are_tones (defScope s_are_tones) _ _; exact blkOk_by (by decide +kernel)) (pgB (by exact sc_are_tones.nd) rfl rfl) (by omega) (fun x0 h0 _ _ _ _ _ => ED.is (ed_call C_is_from (hr.mono (by decide)) (by rfl) (ad_cons (ev 1) (ad_cons (ed_sub ed_int (ed_glo Z.g_LOUDEST_TONE (by rfl))) (ad_cons (ed_glo Z.g_LOUDEST_TONE (by rfl)) ad_nil))) .mk) (hx _ h0))) rfl)
theorem c_is_take (Z : En W) (A : At W "is_take" s_is_take) (C_is_name : Cal W T 1 "is_name" P_is_name R_is_name) (C_are_tones : Cal W T 3 "are_tones" P_are_tones R_are_tones) : Cal W T 4 "is_take" P_is_take R_is_take :=
  cal_of A sc_is_take bn_is_take fun f cdv Ar outer s H E ds d hr g hl => by
    cases g with | @mk t h =>
    refine ws_one (w1_retp (ed_and (isi_tt Z (ev 0)) fun hq => (ed_and (ed_k kd_eqI (ed_b (bd_lenT Z.n_len) (by rfl) (ad_cons (ev 0) ad_nil)) ed_int) fun hq => (ed_and (ed_call C_is_name (hr.mono (by decide)) (by rfl) (ad_cons (ed_ixT (ev 0) ed_int rfl) ad_nil) (.mk h.nm)) fun hq => (ed_one (ed_call C_are_tones (hr.mono (by decide)) (by rfl) (ad_cons (ed_ixT (ev 0) ed_int rfl) ad_nil) (.mk h)))))) rfl)
theorem c_is_corner (Z : En W) (A : At W "is_corner" s_is_corner) (C_is_not_below : Cal W T 3 "is_not_below" P_is_not_below R_is_not_below) : Cal W T 4 "is_corner" P_is_corner R_is_corner :=
  cal_of A sc_is_corner bn_is_corner fun f cdv Ar outer s H E ds d hr g hl => by
    cases g with | @mk c h =>
    refine ws_one (w1_retp (ed_and (isi_tt Z (ev 0)) fun hq => (ed_and (ed_k kd_eqI (ed_b (bd_lenT Z.n_len) (by rfl) (ad_cons (ev 0) ad_nil)) ed_int) fun hq => (ed_and (ed_call C_is_not_below (hr.mono (by decide)) (by rfl) (ad_cons (ed_ixT (ev 0) ed_int rfl) ad_nil) (.mk h.a.fv h.a0)) fun hq => (ed_one (ed_call C_is_not_below (hr.mono (by decide)) (by rfl) (ad_cons (ed_ixT (ev 0) ed_int rfl) ad_nil) (.mk h.b.fv h.b0)))))) rfl)
theorem c_far_between (Z : En W) (A : At W "far_between" s_far_between)  : Cal W T 1 "far_between" P_far_between R_far_between :=
  cal_of A sc_far_between bn_far_between fun f cdv Ar outer s H E ds d hr g hl => by
    cases g with | mk h1 h2 =>
    refine ws_one (w1_retp (ed_tup (ad_cons (ed_sub (ed_mul (ed_ixT (ev 1) ed_int rfl) (ed_ixT (ev 0) ed_int rfl) h2.tp h1.bt) (ed_mul (ed_ixT (ev 0) ed_int rfl) (ed_ixT (ev 1) ed_int rfl) h1.tp h2.bt)) (ad_cons (ed_mul (ed_ixT (ev 0) ed_int rfl) (ed_ixT (ev 1) ed_int rfl) h1.bt h2.bt) ad_nil))) rfl)
theorem c_lies_straight (Z : En W) (A : At W "lies_straight" s_lies_straight) (C_far_between : Cal W T 1 "far_between" P_far_between R_far_between) : Cal W T 2 "lies_straight" P_lies_straight R_lies_straight :=
  cal_of A sc_lies_straight bn_lies_straight fun f cdv Ar outer s H E ds d hr g hl => by
    cases g with | @mk a b c h1 h2 h3 =>
    have r1 := farF_bt h1.b.fb h2.b.fb
    have r2 := farF_bt h1.a.fb h2.a.fb
    have r3 := farF_bt h2.b.fb h3.b.fb
    have r4 := farF_bt h2.a.fb h3.a.fb
    refine ws_cons (w1_par (i := 3) (j := 4) (wa_p (ad_cons (ed_call C_far_between (hr.mono (by decide)) (by rfl) (ad_cons (ed_ixT (ev 0) ed_int rfl) (ad_cons (ed_ixT (ev 1) ed_int rfl) ad_nil)) (.mk h1.b.fb h2.b.fb)) (ad_cons (ed_call C_far_between (hr.mono (by decide)) (by rfl) (ad_cons (ed_ixT (ev 0) ed_int rfl) (ad_cons (ed_ixT (ev 1) ed_int rfl) ad_nil)) (.mk h1.a.fb h2.a.fb)) ad_nil)) ⟨_, _, rfl, ?_⟩) rfl (by exact sc_lies_straight.nd) rfl rfl (by decide) rfl rfl (by rfl))
    refine ws_cons (w1_par (i := 5) (j := 6) (wa_p (ad_cons (ed_call C_far_between (hr.mono (by decide)) (by rfl) (ad_cons (ed_ixT (ev 1) ed_int rfl) (ad_cons (ed_ixT (ev 2) ed_int rfl) ad_nil)) (.mk h2.b.fb h3.b.fb)) (ad_cons (ed_call C_far_between (hr.mono (by decide)) (by rfl) (ad_cons (ed_ixT (ev 1) ed_int rfl) (ad_cons (ed_ixT (ev 2) ed_int rfl) ad_nil)) (.mk h2.a.fb h3.a.fb)) ad_nil)) ⟨_, _, rfl, ?_⟩) rfl (by exact sc_lies_straight.nd) rfl rfl (by decide) rfl rfl (by rfl))
    refine ws_one (w1_retp (ed_k kd_eqI (ed_mul (ed_mul (ed_mul (ed_ixT (ev 3) ed_int rfl) (ed_ixT (ev 6) ed_int rfl) r1.1 r4.1) (ed_ixT (ev 4) ed_int rfl) (r1.1.mul r4.1) r2.2) (ed_ixT (ev 5) ed_int rfl) ((r1.1.mul r4.1).mul r2.2) r3.2) (ed_mul (ed_mul (ed_mul (ed_ixT (ev 5) ed_int rfl) (ed_ixT (ev 4) ed_int rfl) r3.1 r2.1) (ed_ixT (ev 6) ed_int rfl) (r3.1.mul r2.1) r4.2) (ed_ixT (ev 3) ed_int rfl) ((r3.1.mul r2.1).mul r4.2) r1.2)) rfl)
theorem c_is_laid (Z : En W) (A : At W "is_laid" s_is_laid) (C_is_from : Cal W T 2 "is_from" P_is_from R_is_from) : Cal W T 3 "is_laid" P_is_laid R_is_laid :=
  cal_of A sc_is_laid bn_is_laid fun f cdv Ar outer s H E ds d hr g hl => by
    cases g with | @mk p h =>
    have a1 := h.a1
    have a2 := h.a2
    have m1 := h.m1
    have m2 := h.m2
    refine ws_one (w1_retp (ED.is (ed_and (ed_call C_is_from (hr.mono (by decide)) (by rfl) (ad_cons (ev 0) (ad_cons ed_int (ad_cons (ed_glo Z.g_LAST_STEP (by rfl)) ad_nil))) .mk) fun hq => (ed_and (ed_call C_is_from (hr.mono (by decide)) (by rfl) (ad_cons (ev 1) (ad_cons ed_int (ad_cons (ed_glo Z.g_LAST_STEP (by rfl)) ad_nil))) .mk) fun hq => (ed_one (ed_k kd_le (ed_add (ev 0) (ev 1)) (ed_glo Z.g_LAST_STEP (by rfl)))))) (by rw [decide_eq_true (show (0 : Int) ≤ p.at_ by omega), decide_eq_true (show p.at_ ≤ 100000 by omega), decide_eq_true (show (1 : Int) ≤ p.many by omega), decide_eq_true (show p.many ≤ 100000 by omega), decide_eq_true (show p.at_ + p.many ≤ 100000 by omega)]; rfl)) rfl)
theorem c_is_shape (Z : En W) (A : At W "is_shape" s_is_shape) (C_is_corner : Cal W T 4 "is_corner" P_is_corner R_is_corner) (C_is_less : Cal W T 1 "is_less" P_is_less R_is_less) (C_lies_straight : Cal W T 2 "lies_straight" P_lies_straight R_lies_straight) : Cal W T 5 "is_shape" P_is_shape R_is_shape :=
  cal_of A sc_is_shape bn_is_shape fun f cdv Ar outer s H E ds d hr g hl => by
    cases g with | @mk m s h =>
    have h1 := h.l1
    have h2 := h.l2
    refine ws_cons (w1_ifF (TD.is (td_w (wd_or (td_not (td_val (isi_tt Z (ev 0)))) fun hq => (wd_or1 (td_not (td_chain kd_le kd_le ed_int (ed_b (bd_lenT Z.n_len) (by rfl) (ad_cons (ev 0) ad_nil)) (ed_glo Z.g_MOST_CORNERS (by rfl))))))) (by rw [List.length_map, decide_eq_true (show (2 : Int) ≤ s.length by omega), decide_eq_true (show (s.length : Int) ≤ 12 by omega)]; rfl)) (ws_nil ?_))
    refine ws_cons (w1_ifF (TD.is (td_not (td_val (ed_all0 (j := 1) Z.n_all (iw_tupp (ev 0) ⟨rfl, rfl⟩) rfl (by exact sc_is_shape.nd) (by show BlkOk N_is_shape (defScope s_is_shape) _ _; exact blkOk_by (by decide +kernel)) (pgB (by exact sc_is_shape.nd) rfl rfl) (by omega) (fun x0 h0 _ _ _ _ _ => ED.is (ed_call C_is_corner (hr.mono (by decide)) (by rfl) (ad_cons (ev 1) ad_nil) (.mk (h.gcr h0))) rfl)))) rfl) (ws_nil ?_))
    have l1 : ∀ i ∈ List.range (((s.map crD).length : Int) - 1).toNat, i < s.length ∧ i + 1 < s.length := fun i hi => by rw [List.mem_range, List.length_map] at hi; omega
    have l2 : ∀ i ∈ List.range ((((s.map crD).length : Int) - 1) - 1).toNat, i < s.length ∧ i + 1 < s.length ∧ i + 2 < s.length := fun i hi => by rw [List.mem_range, List.length_map] at hi; omega
    have e0 : ((s.map crD).length : Int) = s.length := by rw [List.length_map]
    have gt : ∀ {i : Nat} (hi : i < s.length), s[i]? = some s[i] := fun hi => List.getElem?_eq_getElem hi
    have q1 : ∀ i (h0 : i < s.length ∧ i + 1 < s.length), Dt.bl (lessB (s[i].1.1, s[i].1.2) (s[i + 1].1.1, s[i + 1].1.2)) = .bl true := fun i h0 => congrArg Dt.bl (decide_eq_true (h.up i _ _ (gt h0.1) (gt h0.2)))
    have q2 : ∀ i (h0 : i < s.length ∧ i + 1 < s.length ∧ i + 2 < s.length), Dt.bl (straightB s[i] s[i + 1] s[i + 2]) = .bl false := fun i h0 => congrArg Dt.bl (h.ben i _ _ _ (gt h0.1) (gt h0.2.1) (gt h0.2.2))
    refine ws_cons (w1_ifF (TD.is (td_not (td_val (ed_all0 (j := 2) Z.n_all (iw_rng2 (by rfl) Z.n_range (wa_p (ad_cons ed_int (ad_cons (ed_b (bd_lenT Z.n_len) (by rfl) (ad_cons (ev 0) ad_nil)) ad_nil)) ⟨_, _, rfl, (by rw [e0]; omega), rfl, rfl⟩)) rfl (by exact sc_is_shape.nd) (by show BlkOk N_is_shape (defScope s_is_shape) _ _; exact blkOk_by (by decide +kernel)) (pgB (by exact sc_is_shape.nd) rfl rfl) (by rw [List.length_range, e0]; omega) (fun x0 h0 _ _ _ _ _ => ED.is (ed_call C_is_less (hr.mono (by decide)) (by rfl) (ad_cons (ed_ixT (ed_ixT (ev 0) (ed_sub (ev 2) ed_int) (atI_map (f := crD) (j := x0) (by omega) (gt (l1 _ h0).1))) ed_int rfl) (ad_cons (ed_ixT (ed_ixT (ev 0) (ev 2) (atI_map (f := crD) (j := x0 + 1) (by omega) (gt (l1 _ h0).2))) ed_int rfl) ad_nil)) (.mk (h.gcr (List.getElem_mem (l1 _ h0).1)).a.fb (h.gcr (List.getElem_mem (l1 _ h0).2)).a.fb (by decide))) (q1 _ (l1 _ h0)))))) rfl) (ws_nil ?_))
    refine ws_one (w1_retp (ed_not (ed_any0 (j := 2) Z.n_any (iw_rng2 (by rfl) Z.n_range (wa_p (ad_cons ed_int (ad_cons (ed_sub (ed_b (bd_lenT Z.n_len) (by rfl) (ad_cons (ev 0) ad_nil)) ed_int) ad_nil)) ⟨_, _, rfl, (by rw [e0]; omega), rfl, rfl⟩)) rfl (by exact sc_is_shape.nd) (by show BlkOk N_is_shape (defScope s_is_shape) _ _; exact blkOk_by (by decide +kernel)) (pgB (by exact sc_is_shape.nd) rfl rfl) (by rw [List.length_range, e0]; omega) (fun x0 h0 _ _ _ _ _ => ED.is (ed_call C_lies_straight (hr.mono (by decide)) (by rfl) (ad_cons (ed_ixT (ev 0) (ed_sub (ev 2) ed_int) (atI_map (f := crD) (j := x0) (by omega) (gt (l2 _ h0).1))) (ad_cons (ed_ixT (ev 0) (ev 2) (atI_map (f := crD) (j := x0 + 1) (by omega) (gt (l2 _ h0).2.1))) (ad_cons (ed_ixT (ev 0) (ed_add (ev 2) ed_int) (atI_map (f := crD) (j := x0 + 2) (by omega) (gt (l2 _ h0).2.2))) ad_nil))) (.mk (h.gcr (List.getElem_mem (l2 _ h0).1)) (h.gcr (List.getElem_mem (l2 _ h0).2.1)) (h.gcr (List.getElem_mem (l2 _ h0).2.2)))) (q2 _ (l2 _ h0))))) rfl)
theorem c_is_piece (Z : En W) (A : At W "is_piece" s_is_piece) (C_is_shape : Cal W T 5 "is_shape" P_is_shape R_is_shape) (C_is_from : Cal W T 2 "is_from" P_is_from R_is_from) (C_is_name : Cal W T 1 "is_name" P_is_name R_is_name) (C_is_laid : Cal W T 3 "is_laid" P_is_laid R_is_laid) (C_is_not_below : Cal W T 3 "is_not_below" P_is_not_below R_is_not_below) (C_is_above : Cal W T 3 "is_above" P_is_above R_is_above) (C_as_fraction : Cal W T 1 "as_fraction" P_as_fraction R_as_fraction) : Cal W T 6 "is_piece" P_is_piece R_is_piece :=
  cal_of A sc_is_piece bn_is_piece fun f cdv Ar outer s H E ds d hr g hl => by
    cases g with | @mk p h =>
    have n1 := h.n1
    have n2 := h.n2
    refine ws_cons (w1_ifF (TD.is (td_w (wd_or (td_not (td_val (isi_tt Z (ev 0)))) fun hq => (wd_or1 (td_k kd_neI (ed_b (bd_lenT Z.n_len) (by rfl) (ad_cons (ev 0) ad_nil)) (ed_glo Z.g_PIECE_PARTS (by rfl)))))) rfl) (ws_nil ?_))
    refine ws_cons (w1_unpp (ev 0) rfl ?_ rfl (tgc (i := 1) (tgc (i := 2) (tgc (i := 3) (tgc (i := 4) (tgc (i := 5) (tgc (i := 6) (tgc (i := 7) (tgc (i := 8) Tg.nil (by exact sc_is_piece.nd)) (by exact sc_is_piece.nd)) (by exact sc_is_piece.nd)) (by exact sc_is_piece.nd)) (by exact sc_is_piece.nd)) (by exact sc_is_piece.nd)) (by exact sc_is_piece.nd)) (by exact sc_is_piece.nd)))
    refine ws_cons (w1_ifF (TD.is (td_w (wd_or (td_not (td_val (ed_call C_is_from (hr.mono (by decide)) (by rfl) (ad_cons (ev 1) (ad_cons ed_int (ad_cons (ed_glo Z.g_MOST_NUMBER (by rfl)) ad_nil))) .mk))) fun hq => (wd_or (td_not (td_val (ed_call C_is_name (hr.mono (by decide)) (by rfl) (ad_cons (ev 2) ad_nil) (.mk h.tk)))) fun hq => (wd_or1 (td_not (td_val (ed_call C_is_laid (hr.mono (by decide)) (by rfl) (ad_cons (ev 3) (ad_cons (ev 4) ad_nil)) (.mk h)))))))) (by rw [decide_eq_true n1, decide_eq_true n2]; rfl)) (ws_nil ?_))
    have hw : decide (p.way ∈ (["free", "bound"] : List Str)) = true := by rcases h.way with e | e <;> rw [e] <;> decide
    refine ws_cons (w1_ifF (TD.is (td_w (wd_or (td_not (td_val (isi_ss Z (ev 5)))) fun hq => (wd_or (td_k kd_ninST (ev 5) (ed_glo Z.g_WAYS (by rfl))) fun hq => (wd_or (td_not (td_val (ed_call C_is_not_below (hr.mono (by decide)) (by rfl) (ad_cons (ev 6) ad_nil) (.mk h.st.fv h.st0)))) fun hq => (wd_or1 (td_not (td_val (ed_call C_is_above (hr.mono (by decide)) (by rfl) (ad_cons (ev 7) ad_nil) (.mk h.sp.fv h.sp0))))))))) (by rw [hw]; rfl)) (ws_nil ?_))
    obtain ⟨y, hy⟩ := h.sh.hd
    obtain ⟨z, hz⟩ := h.sh.lst
    refine ws_one (w1_retp (ED.is (ed_and (ed_call C_is_shape (hr.mono (by decide)) (by rfl) (ad_cons (ev 8) ad_nil) (.mk h.sh)) fun hq => (ed_and (ed_eqD (ed_ixT (ed_ixT (ev 8) ed_int (atI_map (f := crD) (j := 0) rfl hy)) ed_int rfl) (ed_glo Z.g_NOUGHT (by rfl)) (by exact cln_fr) (by exact cln_fr) hr.units) fun hq => (ed_one (ed_eqD (ed_ixT (ed_ixT (ev 8) (ed_neg ed_int) (atI_last (f := crD) hz)) ed_int rfl) (ed_call C_as_fraction (hr.mono (by decide)) (by rfl) (ad_cons (ev 4) ad_nil) .mk) (by exact cln_fr) (by exact cln_fr) hr.units)))) (by rw [eqD_t rfl, eqD_t rfl]; rfl)) rfl)
theorem c_is_lane (Z : En W) (A : At W "is_lane" s_is_lane) (C_is_from : Cal W T 2 "is_from" P_is_from R_is_from) (C_is_name : Cal W T 1 "is_name" P_is_name R_is_name) (C_is_not_below : Cal W T 3 "is_not_below" P_is_not_below R_is_not_below) : Cal W T 4 "is_lane" P_is_lane R_is_lane :=
  cal_of A sc_is_lane bn_is_lane fun f cdv Ar outer s H E ds d hr g hl => by
    cases g with | @mk l h =>
    refine ws_cons (w1_ifF (TD.is (td_w (wd_or (td_not (td_val (isi_tt Z (ev 0)))) fun hq => (wd_or (td_k kd_neI (ed_b (bd_lenT Z.n_len) (by rfl) (ad_cons (ev 0) ad_nil)) ed_int) fun hq => (wd_or (td_not (td_val (ed_call C_is_name (hr.mono (by decide)) (by rfl) (ad_cons (ed_ixT (ev 0) ed_int rfl) ad_nil) (.mk h.nm)))) fun hq => (wd_or1 (td_not (td_val (ed_call C_is_not_below (hr.mono (by decide)) (by rfl) (ad_cons (ed_ixT (ev 0) ed_int rfl) ad_nil) (.mk h.g.fv h.g0))))))))) rfl) (ws_nil ?_))
    have hs : (0 : Int) ≤ l.silent ∧ l.silent ≤ 1 := by rcases h.s with e | e <;> rw [e] <;> decide
    refine ws_one (w1_retp (ED.is (ed_and (ed_call C_is_from (hr.mono (by decide)) (by rfl) (ad_cons (ed_ixT (ev 0) ed_int rfl) (ad_cons ed_int (ad_cons ed_int ad_nil))) .mk) fun hq => (ed_one (isi_tt Z (ed_ixT (ev 0) ed_int rfl)))) (by rw [decide_eq_true hs.1, decide_eq_true hs.2]; rfl)) rfl)
end
end BL
set_option maxHeartbeats 4000000
/-! defs: looks into a sheet, sheets put otherwise -/
namespace BL
open PySem PySem.Spec PyProof.Rows L2 Evl
structure FewL (ls : List Ln) : Prop where
  l : ls.length ≤ 12
  p : (ls.flatMap Ln.pcs).length ≤ 60
inductive R_numbered : List Dt → Dt → Prop where
  | mk {ls : List Ln} (h : FewL ls) : R_numbered [.tup (ls.map Ln.d)] (.lst ((rowsOf ls).map Rw.d))
inductive R_lane_by : List Dt → Dt → Prop where
  | mk {s : Sh} {nm : Str} {l : Ln} (h : lnBy s nm = some l) : R_lane_by [s.d, .str nm] l.d
inductive R_take_by : List Dt → Dt → Prop where
  | mk {s : Sh} {nm : Str} {t : Tk} (h : tkBy s nm = some t) : R_take_by [s.d, .str nm] t.d
inductive R_piece_by : List Dt → Dt → Prop where
  | mk {s : Sh} {n : Int} {p : Pc} (hf : FewL s.lns) (h1 : 1 ≤ n) (h2 : n ≤ 99999) (h : pcBy s n = some p) : R_piece_by [s.d, .int n] p.d
inductive R_lane_of : List Dt → Dt → Prop where
  | mk {s : Sh} {n : Int} {l : Ln} (hf : FewL s.lns) (h : lnOf s n = some l) : R_lane_of [s.d, .int n] l.d
inductive R_with_lane : List Dt → Dt → Prop where
  | mk {s : Sh} {l : Ln} (hf : s.lns.length ≤ 12) : R_with_lane [s.d, l.d] (s.setLn l).d
inductive R_with_pieces : List Dt → Dt → Prop where
  | lst {s : Sh} {nm : Str} {l : Ln} {ps : List Pc} (hf : s.lns.length ≤ 12) (h : lnBy s nm = some l) : R_with_pieces [s.d, .str nm, .lst (ps.map Pc.d)] (s.setLn (l.setPcs ps)).d
  | tup {s : Sh} {nm : Str} {l : Ln} {ps : List Pc} (hf : s.lns.length ≤ 12) (h : lnBy s nm = some l) : R_with_pieces [s.d, .str nm, .tup (ps.map Pc.d)] (s.setLn (l.setPcs ps)).d
inductive R_with_piece : List Dt → Dt → Prop where
  | mk {s : Sh} {n : Int} {l l' : Ln} (hf : FewL s.lns) (h : lnOf s n = some l) (hn : lnBy s l.name = some l') : R_with_piece [s.d, .int n, .lst []] (s.setLn (l'.setPcs (l.pcs.filter fun p => !decide (p.n = n)))).d
theorem FewL.pcs {ls : List Ln} (h : FewL ls) {l : Ln} (hl : l ∈ ls) : l.pcs.length ≤ 60 := by
  have : ∀ ls : List Ln, l ∈ ls → l.pcs.length ≤ (ls.flatMap Ln.pcs).length := by
    intro ls
    induction ls with
    | nil => intro h; simp at h
    | cons x xs ih =>
      intro h
      rw [List.flatMap_cons, List.length_append]
      rcases List.mem_cons.mp h with rfl | h
      · omega
      · have := ih h; omega
  exact Nat.le_trans (this ls hl) h.p
theorem bd_tupleT {T : Tb} {X : Cx} {ds : List Dt} (hm : X.mg "tuple" = none) : BD T X "tuple" [.tup ds] (.tup ds) := ⟨hm, .inr ⟨_, _, call_tuple_of, by decide +kernel, fun F H vs Q f r k => by
  obtain ⟨v, rfl, h1⟩ := vs1 r
  obtain ⟨p, us, rfl, h2, h3⟩ := rp_tup.mp h1
  exact ⟨p, us, rfl, .inr ⟨ex_t f.sub h2, k _ _ _ f (Stp.refl _ _ _) h1⟩⟩⟩⟩
section
variable {W : Wo} {T : Tb}
theorem c_lane_by (Z : En W) (A : At W "lane_by" s_lane_by)  : Cal W T 1 "lane_by" P_lane_by R_lane_by :=
  cal_of A sc_lane_by bn_lane_by fun f cdv Ar outer s H E ds d hr g hl => by
    cases g with | @mk s nm l h =>
    refine ws_find (xs := s.lns) (f := Ln.d) (p := fun l => decide (l.name = nm)) (startR N_lane_by [s.d, .str nm]) rfl (tg_n (j := 2) sc_lane_by.nd rfl (.inl rfl)) Agr.refl (iw_tupp (ed_ixT (ev 0) ed_int rfl) ⟨rfl, rfl⟩) ?_ ?_
    · intro a ha
      refine ⟨_, rfl, ⟨rfl, rfl, trivial⟩, TD.is (td_w (wd_and (td_val (isi_ss Z (ev 1))) fun hq => (wd_and1 (td_k kd_eqS (ed_ixT (ev 2) ed_int rfl) (ev 1))))) (Bool.true_and _), fun hf nx bk ct => ?_⟩
      have e : a = l := Option.some.inj (hf.symm.trans h)
      refine ws_one (w1_retp (ev 2) (congrArg Ln.d e))
    · intro hf
      exact absurd (hf.symm.trans h) (by simp)
theorem c_take_by (Z : En W) (A : At W "take_by" s_take_by)  : Cal W T 1 "take_by" P_take_by R_take_by :=
  cal_of A sc_take_by bn_take_by fun f cdv Ar outer s H E ds d hr g hl => by
    cases g with | @mk s nm l h =>
    refine ws_find (xs := s.tks) (f := Tk.d) (p := fun l => decide (l.name = nm)) (startR N_take_by [s.d, .str nm]) rfl (tg_n (j := 2) sc_take_by.nd rfl (.inl rfl)) Agr.refl (iw_tupp (ed_ixT (ev 0) ed_int rfl) ⟨rfl, rfl⟩) ?_ ?_
    · intro a ha
      refine ⟨_, rfl, ⟨rfl, rfl, trivial⟩, TD.is (td_w (wd_and (td_val (isi_ss Z (ev 1))) fun hq => (wd_and1 (td_k kd_eqS (ed_ixT (ev 2) ed_int rfl) (ev 1))))) (Bool.true_and _), fun hf nx bk ct => ?_⟩
      have e : a = l := Option.some.inj (hf.symm.trans h)
      refine ws_one (w1_retp (ev 2) (congrArg Tk.d e))
    · intro hf
      exact absurd (hf.symm.trans h) (by simp)
theorem c_piece_by (Z : En W) (A : At W "piece_by" s_piece_by) (C_numbered : Cal W T 1 "numbered" P_numbered R_numbered) (C_is_from : Cal W T 2 "is_from" P_is_from R_is_from) : Cal W T 3 "piece_by" P_piece_by R_piece_by :=
  cal_of A sc_piece_by bn_piece_by fun f cdv Ar outer s H E ds d hr g hl => by
    cases g with | @mk s n p hf h1 h2 h =>
    refine ws_find (xs := rowsOf s.lns) (f := Rw.d) (p := fun r => (decide (1 ≤ n) && decide (n ≤ 99999)) && decide (r.p.n = n)) (startR N_piece_by [s.d, .int n]) rfl (tg_t (is := [2, 3, 4]) rfl (tgc (tgc (tgc Tg.nil sc_piece_by.nd) sc_piece_by.nd) sc_piece_by.nd)) Agr.refl (iw_listp (ed_call C_numbered (hr.mono (by decide)) (by rfl) (ad_cons (ed_ixT (ev 0) ed_int rfl) ad_nil) (.mk hf)) ⟨rfl, rfl⟩) ?_ ?_
    · intro a ha
      refine ⟨_, rfl, ⟨rfl, rfl, trivial⟩, (td_w (wd_and (td_val (ed_call C_is_from (hr.mono (by decide)) (by rfl) (ad_cons (ev 1) (ad_cons ed_int (ad_cons (ed_glo Z.g_MOST_NUMBER (by rfl)) ad_nil))) .mk)) fun hq => (wd_and1 (td_k kd_eqI (ed_ixT (ev 4) ed_int rfl) (ev 1))))), fun hf nx bk ct => ?_⟩
      have e : a.p = p := Option.some.inj ((find_rows (fun r => by rw [decide_eq_true h1, decide_eq_true h2]; rfl) hf).symm.trans h)
      refine ws_one (w1_retp (ev 4) (congrArg Pc.d e))
    · intro hf
      exact absurd ((find_rows0 (fun r => by rw [decide_eq_true h1, decide_eq_true h2]; rfl) hf).symm.trans h) (by simp)
theorem c_lane_of (Z : En W) (A : At W "lane_of" s_lane_of)  : Cal W T 1 "lane_of" P_lane_of R_lane_of :=
  cal_of A sc_lane_of bn_lane_of fun f cdv Ar outer s H E ds d hr g hl => by
    cases g with | @mk s n l hf h =>
    refine ws_find (xs := s.lns) (f := Ln.d) (p := fun l => decide (n ∈ l.pcs.map Pc.n)) (startR N_lane_of [s.d, .int n]) rfl (tg_n (j := 2) sc_lane_of.nd rfl (.inl rfl)) Agr.refl (iw_tupp (ed_ixT (ev 0) ed_int rfl) ⟨rfl, rfl⟩) ?_ ?_
    · intro a ha
      have hb := hf.pcs ha
      refine ⟨_, rfl, ⟨rfl, rfl, trivial⟩, td_k kd_inIL (ev 1) (ED.is (ed_lc0 (j := 3) (iw_tupp (ed_ixT (ev 2) ed_int rfl) ⟨rfl, rfl⟩) rfl (by exact sc_lane_of.nd) (by show BlkOk N_lane_of (defScope s_lane_of) _ _; exact blkOk_by (by decide +kernel)) (pgB (by exact sc_lane_of.nd) rfl rfl) (by omega) (fun x0 h0 _ _ _ _ _ => (ed_ixT (ev 3) ed_int rfl))) (show _ = Dt.lst ((a.pcs.map Pc.n).map .int) by rw [List.map_map]; rfl)), fun hf nx bk ct => ?_⟩
      have e : a = l := Option.some.inj (hf.symm.trans h)
      refine ws_one (w1_retp (ev 2) (congrArg Ln.d e))
    · intro hf
      exact absurd (hf.symm.trans h) (by simp)
theorem c_with_lane (Z : En W) (A : At W "with_lane" s_with_lane)  : Cal W T 1 "with_lane" P_with_lane R_with_lane :=
  cal_of A sc_with_lane bn_with_lane fun f cdv Ar outer s H E ds d hr g hl => by
    cases g with | @mk s l hf =>
    have q : ∀ a : Ln, Dt.tup [.str l.name, frp l.gain, .int l.silent, .tup (l.pcs.map Pc.d)] = l.d := fun a => rfl
    refine ws_one (w1_retp (ed_catT (ed_slT (ev 0) od_none (od_some ed_int) (by exact of_decide_eq_true rfl)) (ed_tup (ad_cons (ed_b (bd_tupleL Z.n_tuple) (by rfl) (ad_cons (ed_lc0 (j := 2) (xs := s.lns) (f := Ln.d) (g := fun o => (if o.name = l.name then l else o).d) (iw_tupp (ed_ixT (ev 0) ed_int rfl) ⟨rfl, rfl⟩) rfl sc_with_lane.nd (by show BlkOk N_with_lane (defScope s_with_lane) _ _; exact blkOk_by (by decide +kernel)) (pgB sc_with_lane.nd rfl rfl) (by omega) fun a ha _ _ _ _ _ => ?_) ad_nil)) ad_nil)) (by exact List.cons_ne_nil _ _) (by exact List.cons_ne_nil _ _) (by exact Nat.le_of_ble_eq_true rfl)) ?_)
    · refine ed_if (t := decide (a.name = l.name)) (td_k kd_eqS (ed_ixT (ev 2) ed_int rfl) (ed_ixT (ev 1) ed_int rfl)) (fun hq => ED.is (ev 1) ?_) fun hq => ED.is (ev 2) ?_
      · rw [if_pos (of_decide_eq_true hq)]
      · rw [if_neg (of_decide_eq_false hq)]
    · show Dt.tup [s.tm.d, .tup (s.tks.map Tk.d), .tup (s.lns.map fun o => (if o.name = l.name then l else o).d)] = (s.setLn l).d
      unfold Sh.setLn Sh.d
      rw [List.map_map]
      rfl
theorem c_with_pieces (Z : En W) (A : At W "with_pieces" s_with_pieces) (C_lane_by : Cal W T 1 "lane_by" P_lane_by R_lane_by) (C_with_lane : Cal W T 1 "with_lane" P_with_lane R_with_lane) : Cal W T 2 "with_pieces" P_with_pieces R_with_pieces :=
  cal_of A sc_with_pieces bn_with_pieces fun f cdv Ar outer s H E ds d hr g hl => by
    cases g with
    | @lst s nm l ps hf h =>
      refine ws_cons (w1_setp (ix := 3) (ed_call C_lane_by (hr.mono (by decide)) (by rfl) (ad_cons (ev 0) (ad_cons (ev 1) ad_nil)) (.mk h)) ?_ (by exact sc_with_pieces.nd) (by rfl) (by first | exact .inl rfl | exact .inr rfl))
      refine ws_one (w1_retp (ed_call C_with_lane (hr.mono (by decide)) (by rfl) (ad_cons (ev 0) (ad_cons (ed_catT (ed_slT (ev 3) od_none (od_some ed_int) (by exact of_decide_eq_true rfl)) (ed_tup (ad_cons (ed_b (bd_tupleL Z.n_tuple) (by rfl) (ad_cons (ev 2) ad_nil)) ad_nil)) (by exact List.cons_ne_nil _ _) (by exact List.cons_ne_nil _ _) (by exact Nat.le_of_ble_eq_true rfl)) ad_nil)) (R_with_lane.mk (l := l.setPcs ps) hf)) rfl)
    | @tup s nm l ps hf h =>
      refine ws_cons (w1_setp (ix := 3) (ed_call C_lane_by (hr.mono (by decide)) (by rfl) (ad_cons (ev 0) (ad_cons (ev 1) ad_nil)) (.mk h)) ?_ (by exact sc_with_pieces.nd) (by rfl) (by first | exact .inl rfl | exact .inr rfl))
      refine ws_one (w1_retp (ed_call C_with_lane (hr.mono (by decide)) (by rfl) (ad_cons (ev 0) (ad_cons (ed_catT (ed_slT (ev 3) od_none (od_some ed_int) (by exact of_decide_eq_true rfl)) (ed_tup (ad_cons (ed_b (bd_tupleT Z.n_tuple) (by rfl) (ad_cons (ev 2) ad_nil)) ad_nil)) (by exact List.cons_ne_nil _ _) (by exact List.cons_ne_nil _ _) (by exact Nat.le_of_ble_eq_true rfl)) ad_nil)) (R_with_lane.mk (l := l.setPcs ps) hf)) rfl)
theorem c_numbered (Z : En W) (A : At W "numbered" s_numbered)  : Cal W T 1 "numbered" P_numbered R_numbered :=
  cal_of A sc_numbered bn_numbered fun f cdv Ar outer s H E ds d hr g hl => by
    cases g with | @mk ls h =>
    have hl := h.l
    refine ws_cons (w1_newL (ix := 1) ad_nil (fun q => ?_) sc_numbered.nd rfl (.inl rfl))
    have hb : ∀ i, (rowsOf (ls.take i)).length ≤ 60 := fun i => by
      have e : (rowsOf (ls.take i)).length = ((ls.take i).flatMap Ln.pcs).length := by rw [← rowsOf_p, List.length_map]
      rw [e]
      have : (ls.flatMap Ln.pcs).length = ((ls.take i).flatMap Ln.pcs).length + ((ls.drop i).flatMap Ln.pcs).length := by
        rw [← List.length_append, ← List.flatMap_append, List.take_append_drop]
      have := h.p
      omega
    refine ws_for (xs := List.range ((ls.map Ln.d).length : Int).toNat) (f := fun (i : Nat) => .int (0 + (i : Int))) (fun _ => [some (.tup (ls.map Ln.d)), some (.adr q), none, none]) (fun i M' => M' = [(q, .lst ((rowsOf (ls.take i)).map Rw.d))]) rfl (tg_n (j := 2) sc_numbered.nd rfl (.inr rfl)) Agr.refl (iw_rng1 (by rfl) Z.n_range (wa_p (ad_cons (ed_b (bd_lenT Z.n_len) (by rfl) (ad_cons (ev 0) ad_nil)) ad_nil) ⟨_, rfl, by omega, by rw [List.length_map]; omega, rfl, rfl⟩)) ?_ ?_
    · rintro i i' M' hi rfl
      have e0 : i' = i ∧ i < ls.length := by
        have := (List.getElem?_eq_some_iff.mp hi)
        obtain ⟨h1, h2⟩ := this
        rw [List.length_range, List.length_map] at h1
        rw [List.getElem_range] at h2
        omega
      obtain ⟨rfl, hi'⟩ := e0
      have ha : ls[i']? = some ls[i'] := List.getElem?_eq_getElem hi'
      have ht := rowsOf_take ha
      have hb1 := hb i'
      have hb2 := hb (i' + 1)
      rw [ht, List.length_append] at hb2
      have hlen : (rowsL (i' : Int) ls[i'].pcs).length = ls[i'].pcs.length := by unfold rowsL; rw [List.length_map, List.length_zipIdx]
      refine ⟨_, rfl, ws_one (w1_expr (we_ext (ev 1) (n := 0) rfl (we_p (ed_lc0 (j := 3) (xs := List.range ((ls[i'].pcs.map Pc.d).length : Int).toNat) (f := fun (i : Nat) => .int (0 + (i : Int))) (g := fun j => match ls[i'].pcs[j]? with
        | some p => .tup [.int (i' : Int), .int (j : Int), p.d]
        | none => .non) (iw_rng1 (by rfl) Z.n_range (wa_p (ad_cons (ed_b (bd_lenT Z.n_len) (by rfl) (ad_cons (ed_ixT (ed_ixT (ev 0) (ev 2) (atI_map (f := Ln.d) (j := i') (by omega) ha)) ed_int rfl) ad_nil)) ad_nil) ⟨_, rfl, by omega, by rw [List.length_map]; omega, rfl, rfl⟩)) rfl sc_numbered.nd (by show BlkOk N_numbered (defScope s_numbered) _ _; exact blkOk_by (by decide +kernel)) (pgB sc_numbered.nd rfl rfl) (by rw [List.length_range, List.length_map]; omega) fun j hj _ _ _ _ _ => ?_) ⟨_, _, rfl, rfl, by rw [List.length_map, List.length_map, List.length_range, List.length_map]; omega, ?_⟩)))⟩
      · have hj' : j < ls[i'].pcs.length := by rw [List.mem_range, List.length_map] at hj; omega
        have hp : ls[i'].pcs[j]? = some ls[i'].pcs[j] := List.getElem?_eq_getElem hj'
        rw [hp]
        exact ED.is (ed_tup (ad_cons (ev 2) (ad_cons (ev 3) (ad_cons (ed_ixT (ed_ixT (ed_ixT (ev 0) (ev 2) (atI_map (f := Ln.d) (j := i') (by omega) ha)) ed_int rfl) (ev 3) (atI_map (f := Pc.d) (j := j) (by omega) hp)) ad_nil)))) (by rw [Int.zero_add, Int.zero_add])
      · refine ⟨⟨rfl, rfl, trivial⟩, ?_⟩
        show [(q, MO.lst _)] = _
        rw [ht, List.map_append, rowsL_range, List.length_map, show ((ls[i'].pcs.length : Int)).toNat = ls[i'].pcs.length by omega]
        all_goals rfl
    · rintro M' rfl
      rw [List.length_range, List.length_map, show ((ls.length : Int)).toNat = ls.length by omega, List.take_length]
      refine ws_freeze (n := 0) (ix := 1) rfl rfl ?_
      refine ws_one (w1_retp (ev 1) rfl)
theorem c_with_piece (Z : En W) (A : At W "with_piece" s_with_piece) (C_lane_of : Cal W T 1 "lane_of" P_lane_of R_lane_of) (C_with_pieces : Cal W T 2 "with_pieces" P_with_pieces R_with_pieces) : Cal W T 3 "with_piece" P_with_piece R_with_piece :=
  cal_of A sc_with_piece bn_with_piece fun f cdv Ar outer s H E ds d hr g hl => by
    cases g with | @mk s n l l' hf h hn =>
    have hm : l ∈ s.lns := List.mem_of_find?_eq_some h
    have hb := hf.pcs hm
    refine ws_cons (w1_setp (ix := 3) (ed_call C_lane_of (hr.mono (by decide)) (by rfl) (ad_cons (ev 0) (ad_cons (ev 1) ad_nil)) (.mk hf h)) ?_ (by exact sc_with_piece.nd) (by rfl) (by first | exact .inl rfl | exact .inr rfl))
    refine ws_cons (w1_newL (ix := 4) ad_nil (fun q => ?_) sc_with_piece.nd rfl (.inl rfl))
    refine ws_for (xs := l.pcs) (f := Pc.d) (fun _ => [some s.d, some (.int n), some (.lst []), some l.d, some (.adr q), none]) (fun i M' => M' = [(q, .lst (((l.pcs.take i).filter fun p => !decide (p.n = n)).map Pc.d))]) rfl (tg_n (j := 5) sc_with_piece.nd rfl (.inl rfl)) Agr.refl (iw_tupp (ed_ixT (ev 3) ed_int rfl) ⟨rfl, rfl⟩) ?_ ?_
    · rintro i p M' hi rfl
      have hlen : ((l.pcs.take i).filter fun p => !decide (p.n = n)).length ≤ 60 := Nat.le_trans (List.length_filter_le _ _) (by rw [List.length_take]; omega)
      refine ⟨_, rfl, ws_one (w1_expr (we_ext (ev 4) (n := 0) rfl (we_p (ed_if (d := .lst (([p].filter fun p => !decide (p.n = n)).map Pc.d)) (td_k kd_eqI (ed_ixT (ev 5) ed_int rfl) (ev 1)) (fun hq => ED.is (ev 2) ?_) fun hq => ED.is (ed_lst (ad_cons (ev 5) ad_nil)) ?_) ⟨_, _, rfl, rfl, ?_, ?_⟩)))⟩
      · simp [of_decide_eq_true hq]
      · simp [of_decide_eq_false hq]
      · rw [List.length_map, List.length_map]
        have := List.length_filter_le (fun p : Pc => !decide (p.n = n)) [p]
        have : [p].length = 1 := rfl
        omega
      · refine ⟨⟨rfl, rfl, rfl, rfl, rfl, trivial⟩, ?_⟩
        show [(q, MO.lst _)] = _
        rw [List.take_add_one, hi, ← List.map_append, ← List.filter_append]
        rfl
    · rintro M' rfl
      rw [List.take_length]
      refine ws_freeze (n := 0) (ix := 4) rfl rfl ?_
      refine ws_one (w1_retp (ed_call C_with_pieces (hr.mono (by decide)) (by rfl) (ad_cons (ev 0) (ad_cons (ed_ixT (ev 3) ed_int rfl) (ad_cons (ev 4) ad_nil))) (.lst hf.l hn)) rfl)
end
end BL
set_option maxHeartbeats 4000000
/-! defs: what is a sheet -/
namespace BL
open PySem PySem.Spec PyProof.Rows L2 Evl
inductive R_fault_of_takes : List Dt → Dt → Prop where
  | mk {s : Sh} (h : GSh s) : R_fault_of_takes [.tup (s.tks.map Tk.d)] .non
inductive R_fault_of_lanes : List Dt → Dt → Prop where
  | mk {s : Sh} (h : GSh s) : R_fault_of_lanes [.tup (s.lns.map Ln.d)] .non
inductive R_fault_of_pieces : List Dt → Dt → Prop where
  | mk {s : Sh} (h : GSh s) : R_fault_of_pieces [.tup (s.tks.map Tk.d), .tup (s.lns.map Ln.d)] .non
inductive R_fault_of : List Dt → Dt → Prop where
  | mk {s : Sh} (h : GSh s) : R_fault_of [s.d] .non
inductive R_must_be_sheet : List Dt → Dt → Prop where
  | mk {s : Sh} (h : GSh s) : R_must_be_sheet [s.d] .non
theorem GSh.few {s : Sh} (h : GSh s) : FewL s.lns := ⟨by have := h.l2; omega, by have := h.all; unfold Sh.all at this; omega⟩
theorem fwD_no {n : Nat} : fwD (fun _ => false) n = .non := by
  unfold fwD
  rw [List.find?_eq_none.mpr (by simp)]
theorem cut_take {α : Type} {xs : List α} {f : α → Dt} {i : Nat} (h : i ≤ xs.length) : cutD (xs.map f) none (some (i : Int)) = (xs.take i).map f := by
  unfold cutD
  rw [HT.sIx_none, HT.sIx_nat, List.drop_zero, List.length_map, Nat.min_eq_left h, List.map_take]
  rfl
theorem nodup_take {α : Type} {xs : List α} {i : Nat} {a : α} (h : xs.Nodup) (e : xs[i]? = some a) : a ∉ xs.take i := fun z => by
  obtain ⟨j, hj⟩ := List.mem_iff_getElem?.mp z
  have hl := (List.getElem?_eq_some_iff.mp hj).1
  rw [List.length_take] at hl
  rw [List.getElem?_take_of_lt (by omega)] at hj
  have := nd_ix h hj e
  omega
section
variable {W : Wo} {T : Tb}
theorem c_fault_of_takes {c P : Addr} (Z : En W) (A : AtL W "fault_of_takes" s_fault_of_takes c P) (FW : At W "first_where" s_first_where) (hmT : (P, ("fault_of_takes.<locals>.<lambda>" : Str)) ∈ T.tabs) (hu : ∀ p ∈ T.tabs, p.1 = P → p.2 = ("fault_of_takes.<locals>.<lambda>" : Str))
    (C_is_take : Cal W T 4 "is_take" P_is_take R_is_take) : Cal W T 7 "fault_of_takes" P_fault_of_takes R_fault_of_takes :=
  cal_ofL A sc_fault_of_takes bn_fault_of_takes fun f Ar outer s H E ds d hr g hl => by
    cases g with | @mk sh h =>
    have l2 := h.tk2
    have eq : (("fault_of_takes" : Str) ++ ".<locals>." ++ "<lambda>") = ("fault_of_takes.<locals>.<lambda>" : Str) := by decide
    refine ws_cons (w1_setp (ix := 1) (ED.is (ed_fw (c := c) (P := P) (k := 4) (y0 := "k") (b := fun _ => false) FW Z.n_range Z.n_len (by rfl) A.tb rfl (by show (P, ("fault_of_takes" : Str) ++ ".<locals>." ++ "<lambda>") ∈ T.tabs; rw [eq]; exact hmT) (by show ∀ p ∈ T.tabs, p.1 = P → p.2 = ("fault_of_takes" : Str) ++ ".<locals>." ++ "<lambda>"; rw [eq]; exact hu) hr (by show LamS1 (defScope s_fault_of_takes) _ _; exact lamS1_by (by decide +kernel)) (by show _ ∉ N_fault_of_takes; decide) (by rfl) (fun _ _ _ _ _ _ => by rfl) (ev 0) (by rw [List.length_map]; omega) ?_) fwD_no) ?_ sc_fault_of_takes.nd rfl (.inl rfl))
    · intro i hi T' et eb A' outer' s' H' f' c' hrr
      rw [List.length_map] at hi
      have ha : sh.tks[i]? = some sh.tks[i] := List.getElem?_eq_getElem hi
      exact ED.is (ed_not (ed_call (C_is_take.wider et eb) hrr (by rfl) (ad_cons (ed_ixT (ev 0) (ev 4) (atI_map (f := Tk.d) (j := i) rfl ha)) ad_nil) (.mk (h.tks _ (List.getElem_mem hi))))) rfl
    refine ws_cons (w1_ifF (TD.is (td_k kd_isnot (ev 1) ed_non) rfl) (ws_nil ?_))
    refine ws_cons (w1_setp (ix := 2) (ed_lc0 (j := 3) (xs := sh.tks) (f := Tk.d) (g := fun t => .str t.name) (iw_tupp (ev 0) ⟨rfl, rfl⟩) rfl sc_fault_of_takes.nd (by show BlkOk N_fault_of_takes (defScope s_fault_of_takes) _ _; exact blkOk_by (by decide +kernel)) (pgB sc_fault_of_takes.nd rfl rfl) (by omega) fun _ _ _ _ _ _ _ => ed_ixT (ev 3) ed_int rfl) ?_ sc_fault_of_takes.nd rfl (.inr rfl))
    refine ws_cons (w1_setp (ix := 1) (ED.is (ed_fw (c := c) (P := P) (k := 4) (y0 := "k") (b := fun _ => false) FW Z.n_range Z.n_len (by rfl) A.tb rfl (by show (P, ("fault_of_takes" : Str) ++ ".<locals>." ++ "<lambda>") ∈ T.tabs; rw [eq]; exact hmT) (by show ∀ p ∈ T.tabs, p.1 = P → p.2 = ("fault_of_takes" : Str) ++ ".<locals>." ++ "<lambda>"; rw [eq]; exact hu) hr (by show LamS1 (defScope s_fault_of_takes) _ _; exact lamS1_by (by decide +kernel)) (by show _ ∉ N_fault_of_takes; decide) (by rfl) (fun _ _ _ _ _ _ => by rfl) (ev 0) (by rw [List.length_map]; omega) ?_) fwD_no) ?_ sc_fault_of_takes.nd rfl (.inl rfl))
    · intro i hi T' et eb A' outer' s' H' f' c' hrr
      rw [List.length_map] at hi
      have ha : (sh.tks.map Tk.name)[i]? = some sh.tks[i].name := by rw [List.getElem?_map, List.getElem?_eq_getElem hi]; rfl
      have hn := nodup_take h.tkn ha
      refine ED.is (ed_k (kd_inSL (x := sh.tks[i].name) (ns := (sh.tks.map Tk.name).take i)) (ed_ixL (d := .str sh.tks[i].name) (ev 2) (ev 4) ?_) (ED.is (ed_slL (ds := (sh.tks.map Tk.name).map .str) (ED.is (ev 2) ?_) od_none (od_some (ev 4))) (congrArg Dt.lst (cut_take (by rw [List.length_map]; omega))))) (congrArg Dt.bl (decide_eq_false hn))
      · exact atI_map (f := fun t : Tk => Dt.str t.name) (j := i) rfl (List.getElem?_eq_getElem hi)
      · rw [List.map_map]; rfl
    exact ws_one (w1_retp (ed_if (t := true) (td_k kd_is (ev 1) ed_non) (fun _ => ed_non) (fun z => by cases z)) rfl)
theorem c_fault_of_lanes {c P : Addr} (Z : En W) (A : AtL W "fault_of_lanes" s_fault_of_lanes c P) (FW : At W "first_where" s_first_where) (hmT : (P, ("fault_of_lanes.<locals>.<lambda>" : Str)) ∈ T.tabs) (hu : ∀ p ∈ T.tabs, p.1 = P → p.2 = ("fault_of_lanes.<locals>.<lambda>" : Str))
    (C_is_lane : Cal W T 4 "is_lane" P_is_lane R_is_lane) : Cal W T 7 "fault_of_lanes" P_fault_of_lanes R_fault_of_lanes :=
  cal_ofL A sc_fault_of_lanes bn_fault_of_lanes fun f Ar outer s H E ds d hr g hl => by
    cases g with | @mk sh h =>
    have l2 := h.l2
    have eq : (("fault_of_lanes" : Str) ++ ".<locals>." ++ "<lambda>") = ("fault_of_lanes.<locals>.<lambda>" : Str) := by decide
    refine ws_cons (w1_setp (ix := 1) (ED.is (ed_fw (c := c) (P := P) (k := 4) (y0 := "k") (b := fun _ => false) FW Z.n_range Z.n_len (by rfl) A.tb rfl (by show (P, ("fault_of_lanes" : Str) ++ ".<locals>." ++ "<lambda>") ∈ T.tabs; rw [eq]; exact hmT) (by show ∀ p ∈ T.tabs, p.1 = P → p.2 = ("fault_of_lanes" : Str) ++ ".<locals>." ++ "<lambda>"; rw [eq]; exact hu) hr (by show LamS1 (defScope s_fault_of_lanes) _ _; exact lamS1_by (by decide +kernel)) (by show _ ∉ N_fault_of_lanes; decide) (by rfl) (fun _ _ _ _ _ _ => by rfl) (ev 0) (by rw [List.length_map]; omega) ?_) fwD_no) ?_ sc_fault_of_lanes.nd rfl (.inl rfl))
    · intro i hi T' et eb A' outer' s' H' f' c' hrr
      rw [List.length_map] at hi
      have ha : sh.lns[i]? = some sh.lns[i] := List.getElem?_eq_getElem hi
      exact ED.is (ed_not (ed_call (C_is_lane.wider et eb) hrr (by rfl) (ad_cons (ed_ixT (ev 0) (ev 4) (atI_map (f := Ln.d) (j := i) rfl ha)) ad_nil) (.mk (h.lns _ (List.getElem_mem hi))))) rfl
    refine ws_cons (w1_ifF (TD.is (td_k kd_isnot (ev 1) ed_non) rfl) (ws_nil ?_))
    refine ws_cons (w1_setp (ix := 2) (ed_lc0 (j := 3) (xs := sh.lns) (f := Ln.d) (g := fun t => .str t.name) (iw_tupp (ev 0) ⟨rfl, rfl⟩) rfl sc_fault_of_lanes.nd (by show BlkOk N_fault_of_lanes (defScope s_fault_of_lanes) _ _; exact blkOk_by (by decide +kernel)) (pgB sc_fault_of_lanes.nd rfl rfl) (by omega) fun _ _ _ _ _ _ _ => ed_ixT (ev 3) ed_int rfl) ?_ sc_fault_of_lanes.nd rfl (.inr rfl))
    refine ws_cons (w1_setp (ix := 1) (ED.is (ed_fw (c := c) (P := P) (k := 4) (y0 := "k") (b := fun _ => false) FW Z.n_range Z.n_len (by rfl) A.tb rfl (by show (P, ("fault_of_lanes" : Str) ++ ".<locals>." ++ "<lambda>") ∈ T.tabs; rw [eq]; exact hmT) (by show ∀ p ∈ T.tabs, p.1 = P → p.2 = ("fault_of_lanes" : Str) ++ ".<locals>." ++ "<lambda>"; rw [eq]; exact hu) hr (by show LamS1 (defScope s_fault_of_lanes) _ _; exact lamS1_by (by decide +kernel)) (by show _ ∉ N_fault_of_lanes; decide) (by rfl) (fun _ _ _ _ _ _ => by rfl) (ev 0) (by rw [List.length_map]; omega) ?_) fwD_no) ?_ sc_fault_of_lanes.nd rfl (.inl rfl))
    · intro i hi T' et eb A' outer' s' H' f' c' hrr
      rw [List.length_map] at hi
      have ha : (sh.lns.map Ln.name)[i]? = some sh.lns[i].name := by rw [List.getElem?_map, List.getElem?_eq_getElem hi]; rfl
      have hn := nodup_take h.lnn ha
      refine ED.is (ed_k (kd_inSL (x := sh.lns[i].name) (ns := (sh.lns.map Ln.name).take i)) (ed_ixL (d := .str sh.lns[i].name) (ev 2) (ev 4) ?_) (ED.is (ed_slL (ds := (sh.lns.map Ln.name).map .str) (ED.is (ev 2) ?_) od_none (od_some (ev 4))) (congrArg Dt.lst (cut_take (by rw [List.length_map]; omega))))) (congrArg Dt.bl (decide_eq_false hn))
      · exact atI_map (f := fun t : Ln => Dt.str t.name) (j := i) rfl (List.getElem?_eq_getElem hi)
      · rw [List.map_map]; rfl
    exact ws_one (w1_retp (ed_if (t := true) (td_k kd_is (ev 1) ed_non) (fun _ => ed_non) (fun z => by cases z)) rfl)
theorem c_fault_of_pieces (Z : En W) (A : At W "fault_of_pieces" s_fault_of_pieces) (C_numbered : Cal W T 1 "numbered" P_numbered R_numbered) (C_is_piece : Cal W T 6 "is_piece" P_is_piece R_is_piece) : Cal W T 7 "fault_of_pieces" P_fault_of_pieces R_fault_of_pieces :=
  cal_of A sc_fault_of_pieces bn_fault_of_pieces fun f cdv Ar outer s H E ds d hr g hl => by
    cases g with | @mk sh h =>
    have hall := h.all
    have hrl : (rowsOf sh.lns).length = sh.all.length := by unfold Sh.all; rw [← rowsOf_p, List.length_map]
    have hrp : ∀ r ∈ rowsOf sh.lns, r.p ∈ sh.all := fun r hr => by unfold Sh.all; rw [← rowsOf_p]; exact List.mem_map.mpr ⟨r, hr, rfl⟩
    have hgp : ∀ p ∈ sh.all, GPc p := fun p hp => by
      obtain ⟨l, hl, hp⟩ := List.mem_flatMap.mp hp
      exact (h.lns l hl).pc p hp
    have hrn : (rowsOf sh.lns).map (fun r => r.p.n) = sh.all.map Pc.n := by
      unfold Sh.all
      rw [← rowsOf_p, List.map_map]
      rfl
    refine ws_cons (w1_setp (ix := 2) (ed_call C_numbered (hr.mono (by decide)) (by rfl) (ad_cons (ev 1) ad_nil) (.mk h.few)) ?_ (by exact sc_fault_of_pieces.nd) (by rfl) (by first | exact .inl rfl | exact .inr rfl))
    refine ws_find (xs := rowsOf sh.lns) (f := Rw.d) (p := fun _ => false) [some (.tup (sh.tks.map Tk.d)), some (.tup (sh.lns.map Ln.d)), some (.lst ((rowsOf sh.lns).map Rw.d)), none, none, none, none, none, none] rfl (tg_t (is := [3, 4, 5]) rfl (tgc (tgc (tgc Tg.nil sc_fault_of_pieces.nd) sc_fault_of_pieces.nd) sc_fault_of_pieces.nd)) Agr.refl (iw_listp (ev 2) ⟨rfl, rfl⟩) ?_ ?_
    · intro r hr'
      exact ⟨_, rfl, ⟨rfl, rfl, rfl, trivial⟩, TD.is (td_not (td_val (ed_call C_is_piece (hr.mono (by decide)) (by rfl) (ad_cons (ev 5) ad_nil) (.mk (hgp _ (hrp r hr')))))) rfl, fun hf => absurd (List.find?_some hf) (by simp)⟩
    intro _
    refine ws_cons (w1_ifF (TD.is (td_k kd_gt (ed_b (bd_lenL Z.n_len) (by rfl) (ad_cons (ev 2) ad_nil)) (ed_glo Z.g_MOST_PIECES (by rfl))) (decide_eq_false (by rw [List.length_map]; omega))) (ws_nil ?_))
    refine ws_cons (w1_lc0 (ix := 6) (j := 8) (xs := sh.tks) (f := Tk.d) (g := fun t => .str t.name) (iw_tupp (ev 0) ⟨rfl, rfl⟩) rfl sc_fault_of_pieces.nd (by show BlkOk N_fault_of_pieces (defScope s_fault_of_pieces) _ _; exact blkOk_by (by decide +kernel)) (pgB sc_fault_of_pieces.nd rfl rfl) (by have := h.tk2; omega) (fun _ _ _ _ _ _ _ => ed_ixT (ev 8) ed_int rfl) ?_ rfl rfl)
    refine ws_cons (w1_newL (ix := 7) ad_nil (fun q => ?_) sc_fault_of_pieces.nd rfl (.inl rfl))
    refine ws_for (xs := rowsOf sh.lns) (f := Rw.d) (fun _ => [some (.tup (sh.tks.map Tk.d)), some (.tup (sh.lns.map Ln.d)), some (.lst ((rowsOf sh.lns).map Rw.d)), none, none, none, some (.lst (sh.tks.map fun t => .str t.name)), some (.adr q), none]) (fun i M' => M' = [(q, .lst (((rowsOf sh.lns).take i).map fun r => .int r.p.n))]) rfl (tg_t (is := [3, 4, 5]) rfl (tgc (tgc (tgc Tg.nil sc_fault_of_pieces.nd) sc_fault_of_pieces.nd) sc_fault_of_pieces.nd)) ⟨rfl, rfl, rfl, rfl, rfl, trivial⟩ (iw_listp (ev 2) ⟨rfl, rfl⟩) ?_ ?_
    · rintro i r M' hi rfl
      have hn : r.p.n ∉ ((rowsOf sh.lns).map fun r => r.p.n).take i := nodup_take (by rw [hrn]; exact h.nn) (by rw [List.getElem?_map, hi]; rfl)
      refine ⟨_, rfl, ws_cons (w1_if (wt_view (n := 0) (ix := 7) rfl rfl (TD.is (td_k (kd_inIL (ns := ((rowsOf sh.lns).map fun r => r.p.n).take i)) (ed_ixT (ev 5) ed_int rfl) (ED.is (ev 7) ?_)) (decide_eq_false hn)) ?_))⟩
      · rw [← List.map_take, List.map_map]; rfl
      refine iteF (ws_nil (ws_one (w1_expr (we_app (ev 7) (n := 0) rfl (we_p (ed_ixT (ev 5) ed_int rfl) ⟨_, rfl, ?_, ?_⟩)))))
      · rw [List.length_map, List.length_take]; omega
      · refine ⟨⟨rfl, rfl, rfl, rfl, rfl, trivial⟩, ?_⟩
        show [(q, MO.lst _)] = _
        rw [List.take_add_one, hi, List.map_append]
        rfl
    rintro M' rfl
    refine ws_find (xs := rowsOf sh.lns) (f := Rw.d) (p := fun _ => false) [some (.tup (sh.tks.map Tk.d)), some (.tup (sh.lns.map Ln.d)), some (.lst ((rowsOf sh.lns).map Rw.d)), none, none, none, some (.lst (sh.tks.map fun t => .str t.name)), some (.adr q), none] rfl (tg_t (is := [3, 4, 5]) rfl (tgc (tgc (tgc Tg.nil sc_fault_of_pieces.nd) sc_fault_of_pieces.nd) sc_fault_of_pieces.nd)) ⟨rfl, rfl, rfl, rfl, rfl, trivial⟩ (iw_listp (ev 2) ⟨rfl, rfl⟩) ?_ ?_
    · intro r hr'
      have ht := h.tkd _ (hrp r hr')
      refine ⟨_, rfl, ⟨rfl, rfl, rfl, rfl, rfl, trivial⟩, TD.is (td_k (kd_ninSL (ns := sh.tks.map Tk.name)) (ed_ixT (ev 5) ed_int rfl) (ED.is (ev 6) ?_)) (by rw [decide_eq_true ht]; rfl), fun hf => absurd (List.find?_some hf) (by simp)⟩
      rw [List.map_map]; rfl
    intro _
    exact ws_one (w1_retp ed_non rfl)
theorem c_fault_of (Z : En W) (A : At W "fault_of" s_fault_of) (C_is_tempo : Cal W T 7 "is_tempo" P_is_tempo R_is_tempo) (C_fault_of_takes : Cal W T 7 "fault_of_takes" P_fault_of_takes R_fault_of_takes) (C_fault_of_lanes : Cal W T 7 "fault_of_lanes" P_fault_of_lanes R_fault_of_lanes) (C_fault_of_pieces : Cal W T 7 "fault_of_pieces" P_fault_of_pieces R_fault_of_pieces) : Cal W T 8 "fault_of" P_fault_of R_fault_of :=
  cal_of A sc_fault_of bn_fault_of fun f cdv Ar outer s H E ds d hr g hl => by
    cases g with | @mk sh h =>
    have t2 := h.tk2
    have l2 := h.l2
    refine ws_cons (w1_ifF (TD.is (td_w (wd_or (td_not (td_val (isi_tt Z (ev 0)))) fun hq => wd_or (td_k kd_neI (ed_b (bd_lenT Z.n_len) (by rfl) (ad_cons (ev 0) ad_nil)) ed_int) fun hq => wd_or1 (td_not (td_val (ed_all0 (j := 4) (xs := [sh.tks.map Tk.d, sh.lns.map Ln.d]) (f := Dt.tup) Z.n_all (iw_tupp (ed_slT (ev 0) (od_some ed_int) od_none (by exact of_decide_eq_true rfl)) ⟨rfl, rfl⟩) rfl sc_fault_of.nd (by show BlkOk N_fault_of (defScope s_fault_of) _ _; exact blkOk_by (by decide +kernel)) (pgB sc_fault_of.nd rfl rfl) (by show (2 : Nat) ≤ 100000; decide) fun _ _ _ _ _ _ _ => isi_tt Z (ev 4)))))) rfl) (ws_nil ?_))
    refine ws_cons (w1_unpp (ev 0) rfl ?_ rfl (tgc (i := 1) (tgc (i := 2) (tgc (i := 3) Tg.nil (by exact sc_fault_of.nd)) (by exact sc_fault_of.nd)) (by exact sc_fault_of.nd)))
    refine ws_cons (w1_ifF (TD.is (td_w (wd_or (td_k kd_gt (ed_b (bd_lenT Z.n_len) (by rfl) (ad_cons (ev 2) ad_nil)) (ed_glo Z.g_MOST_TAKES (by rfl))) fun hq => (wd_or1 (td_k kd_gt (ed_b (bd_lenT Z.n_len) (by rfl) (ad_cons (ev 3) ad_nil)) (ed_glo Z.g_MOST_LANES (by rfl)))))) (by rw [List.length_map, List.length_map, decide_eq_false (by omega), decide_eq_false (by omega)]; rfl)) (ws_nil ?_))
    refine ws_cons (w1_ifF (TD.is (td_not (td_val (ed_call C_is_tempo (hr.mono (by decide)) (by rfl) (ad_cons (ev 1) ad_nil) (.mk h.tm)))) rfl) (ws_nil ?_))
    exact ws_one (w1_retp (ed_orN (ed_call C_fault_of_takes (hr.mono (by decide)) (by rfl) (ad_cons (ev 2) ad_nil) (.mk h)) (ed_orN (ed_call C_fault_of_lanes (hr.mono (by decide)) (by rfl) (ad_cons (ev 3) ad_nil) (.mk h)) (ed_one (ed_call C_fault_of_pieces (hr.mono (by decide)) (by rfl) (ad_cons (ev 2) (ad_cons (ev 3) ad_nil)) (.mk h))))) rfl)
theorem c_must_be_sheet (Z : En W) (A : At W "must_be_sheet" s_must_be_sheet) (C_fault_of : Cal W T 8 "fault_of" P_fault_of R_fault_of) : Cal W T 9 "must_be_sheet" P_must_be_sheet R_must_be_sheet :=
  cal_of A sc_must_be_sheet bn_must_be_sheet fun f cdv Ar outer s H E ds d hr g hl => by
    cases g with | @mk sh h =>
    refine ws_one (w1_ifF (TD.is (td_k kd_isnot (ed_call C_fault_of (hr.mono (by decide)) (by rfl) (ad_cons (ev 0) ad_nil) (.mk h)) ed_non) rfl) (ws_nil rfl))
end
end BL
set_option maxHeartbeats 4000000
/-! defs: what is heard -/
namespace BL
open PySem PySem.Spec PyProof.Rows L2 Evl
inductive R_covers : List Dt → Dt → Prop where
  | mk {p : Pc} {x : Fr} (h : GPc p) (hx : FBp 40 x) : R_covers [p.d, frp x] (.bl (coversB p x))
inductive R_gone_through : List Dt → Dt → Prop where
  | mk {t : Tm} {p : Pc} {x : Fr} (ht : GTm t) (h : GPc p) (hx : FBp 40 x) (h0 : 0 ≤ x.1) : R_gone_through [t.d, p.d, frp x] (frp (goneF t p x))
inductive R_content_by : List Dt → Dt → Prop where
  | mk {t : Tm} {p : Pc} {x : Fr} (ht : GTm t) (h : GPc p) (hx : FBp 40 x) (h0 : 0 ≤ x.1) : R_content_by [t.d, p.d, frp x] (frp (contF t p x))
inductive R_level_by : List Dt → Dt → Prop where
  | mk {m : Int} {s : Sp} {x : Fr} (h : GSp m s) (hx : FBp 100 x) : R_level_by [spD s, frp x] (frp (levF s x))
inductive R_tone_by : List Dt → Dt → Prop where
  | mk {s : Sh} {p : Pc} {tk : Tk} {x : Fr} (hs : GTm s.tm) (h : GPc p) (ht : tkBy s p.take = some tk) (hk : GTk tk) (hx : FBp 40 x) (h0 : 0 ≤ x.1) (hc : 0 ≤ (contF s.tm p x).1) : R_tone_by [s.d, p.d, frp x] (.int (toneF s.tm tk.tones p x))
inductive R_sound_by : List Dt → Dt → Prop where
  | mk {s : Sh} {p : Pc} {tk : Tk} {x : Fr} (hs : GTm s.tm) (h : GPc p) (ht : tkBy s p.take = some tk) (hk : GTk tk) (hx : FBp 40 x) (h0 : 0 ≤ x.1) (hc : 0 ≤ (contF s.tm p x).1) (hv : coversB p x = true) : R_sound_by [s.d, p.d, frp x] (frp (soundF s.tm tk.tones p x))
def oPc : Option Pc → Dt
  | some p => p.d
  | none => .non
inductive R_highest_by : List Dt → Dt → Prop where
  | mk {l : Ln} {x : Fr} (h : ∀ p ∈ l.pcs, GPc p) (hx : FBp 40 x) : R_highest_by [l.d, frp x] (oPc (hiF l x))
inductive R_lane_by_place : List Dt → Dt → Prop where
  | mk {s : Sh} {l : Ln} {p : Pc} {tk : Tk} {x : Fr} (hl : GLn l) (h1 : hiF l x = some p) (h2 : l.silent = 0) (hs : GTm s.tm) (ht : tkBy s p.take = some tk) (hk : GTk tk) (hx : FBp 40 x) (h0 : 0 ≤ x.1) (hc : 0 ≤ (contF s.tm p x).1) : R_lane_by_place [s.d, l.d, frp x] (frp (timesF l.gain (soundF s.tm tk.tones p x)))
inductive R_looked_up : List Dt → Dt → Prop where
  | mk {s : Sh} {n : Int} {p : Pc} {x : Fr} (hs : GSh s) (h1 : 1 ≤ n) (h2 : n ≤ 99999) (h : pcBy s n = some p) (hx : Fvp x) (h0 : 0 ≤ x.1) : R_looked_up [s.d, .int n, frp x] p.d
inductive R_sound_at : List Dt → Dt → Prop where
  | mk {s : Sh} {n : Int} {p : Pc} {tk : Tk} {x : Fr} (hs : GSh s) (hp : GPc p) (h : pcBy s n = some p) (h1 : 1 ≤ n) (h2 : n ≤ 99999) (ht : tkBy s p.take = some tk) (hk : GTk tk) (hx : Gf 40 x) (h0 : 0 ≤ x.1) (hc : 0 ≤ (contF s.tm p x).1) (hv : coversB p x = true) : R_sound_at [s.d, .int n, frp x] (frp (soundF s.tm tk.tones p x))
inductive R_lane_at : List Dt → Dt → Prop where
  | mk {s : Sh} {nm : Str} {l : Ln} {p : Pc} {tk : Tk} {x : Fr} (hs : GSh s) (hb : lnBy s nm = some l) (hl : GLn l) (h1 : hiF l x = some p) (h2 : l.silent = 0) (ht : tkBy s p.take = some tk) (hk : GTk tk) (hx : Gf 40 x) (h0 : 0 ≤ x.1) (hc : 0 ≤ (contF s.tm p x).1) : R_lane_at [s.d, .str nm, frp x] (frp (timesF l.gain (soundF s.tm tk.tones p x)))
theorem crAt_get {s : Sp} {i : Nat} (h : i < s.length) : s[i]? = some (crAt s i) := by
  unfold crAt
  rw [List.getElem?_eq_getElem h, List.getD_eq_getElem?_getD, List.getElem?_eq_getElem h]
  rfl
theorem toneF_bt {t : Tm} {tk : Tk} {p : Pc} {x : Fr} (h : GTk tk) : Bt 40 (toneF t tk.tones p x) := by
  unfold toneF
  split
  · rw [List.getD_eq_getElem?_getD]
    cases e : tk.tones[((contF t p x).1 / (contF t p x).2).toNat]? with
    | none => exact bt_of (by simp) (by simp)
    | some v =>
      have := h.tn v (List.mem_of_getElem? e)
      exact bt_of (by simp; omega) (by simp; omega)
  · exact bt_of (by simp) (by simp)
section
variable {W : Wo} {T : Tb}
theorem c_covers (Z : En W) (A : At W "covers" s_covers) (C_is_less : Cal W T 1 "is_less" P_is_less R_is_less) (C_as_fraction : Cal W T 1 "as_fraction" P_as_fraction R_as_fraction) : Cal W T 2 "covers" P_covers R_covers :=
  cal_of A sc_covers bn_covers fun f cdv Ar outer s H E ds d hr g hl => by
    cases g with | @mk p x h hx =>
    refine ws_one (w1_retp (ed_and (ed_not (ed_call C_is_less (hr.mono (by decide)) (by rfl) (ad_cons (ev 1) (ad_cons (ed_call C_as_fraction (hr.mono (by decide)) (by rfl) (ad_cons (ed_ixT (ev 0) ed_int rfl) ad_nil) .mk) ad_nil)) (.mk hx (at_fb h) (by decide)))) fun hq => (ed_one (ed_call C_is_less (hr.mono (by decide)) (by rfl) (ad_cons (ev 1) (ad_cons (ed_call C_as_fraction (hr.mono (by decide)) (by rfl) (ad_cons (ed_add (ed_ixT (ev 0) ed_int rfl) (ed_ixT (ev 0) ed_int rfl)) ad_nil) .mk) ad_nil)) (.mk hx (end_fb h) (by decide))))) rfl)
theorem c_gone_through (Z : En W) (A : At W "gone_through" s_gone_through) (C_as_fraction : Cal W T 1 "as_fraction" P_as_fraction R_as_fraction) (C_minus : Cal W T 3 "minus" P_minus R_minus) (C_moment_by : Cal W T 7 "moment_by" P_moment_by R_moment_by) : Cal W T 8 "gone_through" P_gone_through R_gone_through :=
  cal_of A sc_gone_through bn_gone_through fun f cdv Ar outer s H E ds d hr g hl => by
    cases g with | @mk t p x ht h hx h0 =>
    refine ws_cons (w1_setp (ix := 3) (ed_call C_as_fraction (hr.mono (by decide)) (by rfl) (ad_cons (ed_ixT (ev 1) ed_int rfl) ad_nil) .mk) ?_ (by exact sc_gone_through.nd) (by rfl) (by first | exact .inl rfl | exact .inr rfl))
    by_cases hw : p.way = "bound"
    · refine ws_cons (w1_ifT (TD.is (td_k kd_eqS (ed_ixT (ev 1) ed_int rfl) ed_str) (decide_eq_true hw)) ?_)
      refine ws_one (w1_retp (ed_call C_minus (hr.mono (by decide)) (by rfl) (ad_cons (ev 2) (ad_cons (ev 3) ad_nil)) (.mk hx (at_fb h) (by decide))) (by unfold goneF; rw [if_pos hw]))
    · refine ws_cons (w1_ifF (TD.is (td_k kd_eqS (ed_ixT (ev 1) ed_int rfl) ed_str) (decide_eq_false hw)) (ws_nil ?_))
      refine ws_one (w1_retp (ed_call C_minus (hr.mono (by decide)) (by rfl) (ad_cons (ed_call C_moment_by (hr.mono (by decide)) (by rfl) (ad_cons (ev 0) (ad_cons (ev 2) ad_nil)) (.mk ht hx h0)) (ad_cons (ed_call C_moment_by (hr.mono (by decide)) (by rfl) (ad_cons (ev 0) (ad_cons (ev 3) ad_nil)) (R_moment_by.mk (x := (p.at_, 1)) ht (at_fb h) h.a1)) ad_nil)) (.mk (momF_fb ht hx h0) (momF_fb ht (at_fb h) h.a1) (by decide))) (by unfold goneF; rw [if_neg hw]))
theorem c_content_by (Z : En W) (A : At W "content_by" s_content_by) (C_plus : Cal W T 3 "plus" P_plus R_plus) (C_times : Cal W T 3 "times" P_times R_times) (C_gone_through : Cal W T 8 "gone_through" P_gone_through R_gone_through) : Cal W T 9 "content_by" P_content_by R_content_by :=
  cal_of A sc_content_by bn_content_by fun f cdv Ar outer s H E ds d hr g hl => by
    cases g with | @mk t p x ht h hx h0 =>
    have a := goneF_fb ht h hx h0
    refine ws_one (w1_retp (ed_call C_plus (hr.mono (by decide)) (by rfl) (ad_cons (ed_ixT (ev 1) ed_int rfl) (ad_cons (ed_call C_times (hr.mono (by decide)) (by rfl) (ad_cons (ed_ixT (ev 1) ed_int rfl) (ad_cons (ed_call C_gone_through (hr.mono (by decide)) (by rfl) (ad_cons (ev 0) (ad_cons (ev 1) (ad_cons (ev 2) ad_nil))) (.mk ht h hx h0)) ad_nil)) (.mk h.sp.fb a (by decide))) ad_nil)) (.mk h.st.fb (timesF_fb h.sp.fb a) (by decide))) rfl)
theorem c_level_by (Z : En W) (A : At W "level_by" s_level_by) (C_is_less : Cal W T 1 "is_less" P_is_less R_is_less) (C_part_way : Cal W T 4 "part_way" P_part_way R_part_way) (C_over : Cal W T 4 "over" P_over R_over) (C_minus : Cal W T 3 "minus" P_minus R_minus) : Cal W T 5 "level_by" P_level_by R_level_by :=
  cal_of A sc_level_by bn_level_by fun f cdv Ar outer s H E ds d hr g hl => by
    cases g with | @mk m s x h hx =>
    have l1 := h.l1
    have l2 := h.l2
    have e0 : ((s.map crD).length : Int) = s.length := by rw [List.length_map]
    have gc : ∀ i, i < s.length → GCr (crAt s i) := fun i hi => h.gcr (List.mem_of_getElem? (crAt_get hi))
    refine ws_find (xs := List.range (((s.map crD).length : Int) - 1).toNat) (f := fun (i : Nat) => .int (1 + (i : Int))) (p := fun i => !lessB (crAt s (i + 1)).1 x) (startR N_level_by [spD s, frp x]) rfl (tg_n (j := 2) sc_level_by.nd rfl (.inl rfl)) Agr.refl (iw_rng2 (by rfl) Z.n_range (wa_p (ad_cons ed_int (ad_cons (ed_b (bd_lenT Z.n_len) (by rfl) (ad_cons (ev 0) ad_nil)) ad_nil)) ⟨_, _, rfl, by rw [e0]; omega, rfl, rfl⟩)) ?_ ?_
    · intro i hi
      rw [List.mem_range, e0] at hi
      have g1 := gc i (by omega)
      have g2 := gc (i + 1) (by omega)
      have a1 : atI (s.map crD) (1 + (i : Int)) = some (crD (crAt s (i + 1))) := atI_map (f := crD) (j := i + 1) (by omega) (crAt_get (by omega))
      have a0 : atI (s.map crD) (1 + (i : Int) - 1) = some (crD (crAt s i)) := atI_map (f := crD) (j := i) (by omega) (crAt_get (by omega))
      have hd := lev_pos h (i := i) (by omega)
      refine ⟨_, rfl, ⟨rfl, rfl, trivial⟩, (td_not (td_val (ed_call C_is_less (hr.mono (by decide)) (by rfl) (ad_cons (ed_ixT (ed_ixT (ev 0) (ev 2) a1) ed_int rfl) (ad_cons (ev 1) ad_nil)) (.mk g2.a.fb hx (by decide))))), fun hf nx bk ct => ?_⟩
      have hf' : (List.range (s.length - 1)).find? (fun i => !lessB (crAt s (i + 1)).1 x) = some i := by
        rw [e0, show ((s.length : Int) - 1).toNat = s.length - 1 by omega] at hf
        exact hf
      refine ws_cons (w1_par (i := 3) (j := 4) (wa_p (ad_cons (ed_ixT (ev 0) (ed_sub (ev 2) ed_int) a0) (ad_cons (ed_ixT (ev 0) (ev 2) a1) ad_nil)) ⟨_, _, rfl, ?_⟩) rfl (by exact sc_level_by.nd) rfl rfl (by decide) rfl rfl (by rfl))
      refine ws_one (w1_retp (ed_call C_part_way (hr.mono (by decide)) (by rfl) (ad_cons (ed_ixT (ev 3) ed_int rfl) (ad_cons (ed_ixT (ev 4) ed_int rfl) (ad_cons (ed_call C_over (hr.mono (by decide)) (by rfl) (ad_cons (ed_call C_minus (hr.mono (by decide)) (by rfl) (ad_cons (ev 1) (ad_cons (ed_ixT (ev 3) ed_int rfl) ad_nil)) (.mk hx g1.a.fb (by decide))) (ad_cons (ed_call C_minus (hr.mono (by decide)) (by rfl) (ad_cons (ed_ixT (ev 4) ed_int rfl) (ad_cons (ed_ixT (ev 3) ed_int rfl) ad_nil)) (.mk g2.a.fb g1.a.fb (by decide))) ad_nil)) (.mk (minusF_fb hx g1.a.fb) (minusF_fb g2.a.fb g1.a.fb) hd (by decide))) ad_nil))) (.mk g1.b.fb g2.b.fb (overF_fb (minusF_fb hx g1.a.fb) (minusF_fb g2.a.fb g1.a.fb) hd) (by decide))) (by unfold levF; rw [hf']))
    · intro hf
      have hf' : (List.range (s.length - 1)).find? (fun i => !lessB (crAt s (i + 1)).1 x) = none := by
        rw [e0, show ((s.length : Int) - 1).toNat = s.length - 1 by omega] at hf
        exact hf
      refine ws_one (w1_retp (ed_ixT (ed_ixT (ev 0) (ed_neg ed_int) (atI_last (f := crD) (crAt_get (by omega)))) ed_int rfl) (by unfold levF; rw [hf']))
theorem c_tone_by (Z : En W) (A : At W "tone_by" s_tone_by) (C_floor_of : Cal W T 1 "floor_of" P_floor_of R_floor_of) (C_take_by : Cal W T 1 "take_by" P_take_by R_take_by) (C_content_by : Cal W T 9 "content_by" P_content_by R_content_by) : Cal W T 10 "tone_by" P_tone_by R_tone_by :=
  cal_of A sc_tone_by bn_tone_by fun f cdv Ar outer s H E ds d hr g hl => by
    cases g with | @mk s p tk x hs h ht hk hx h0 hc =>
    have a := contF_fb hs h hx h0
    have f := floor_ok a hc
    refine ws_cons (w1_setp (ix := 3) (ed_ixT (ed_call C_take_by (hr.mono (by decide)) (by rfl) (ad_cons (ev 0) (ad_cons (ed_ixT (ev 1) ed_int rfl) ad_nil)) (.mk ht)) ed_int rfl) ?_ (by exact sc_tone_by.nd) (by rfl) (by first | exact .inl rfl | exact .inr rfl))
    refine ws_cons (w1_setp (ix := 4) (ed_call C_floor_of (hr.mono (by decide)) (by rfl) (ad_cons (ed_call C_content_by (hr.mono (by decide)) (by rfl) (ad_cons (ed_ixT (ev 0) ed_int rfl) (ad_cons (ev 1) (ad_cons (ev 2) ad_nil))) (.mk hs h hx h0)) ad_nil) (.mk a (by decide))) ?_ (by exact sc_tone_by.nd) (by rfl) (by first | exact .inl rfl | exact .inr rfl))
    refine ws_one (w1_retp (ed_if (t := decide ((contF s.tm p x).1 / (contF s.tm p x).2 < (tk.tones.length : Int))) (TD.is (td_k kd_lt (ev 4) (ed_b (bd_lenT Z.n_len) (by rfl) (ad_cons (ev 3) ad_nil))) (by rw [List.length_map])) (fun hq => ?_) (fun hq => ED.is ed_int ?_)) rfl)
    · have hq' := of_decide_eq_true hq
      have hlt : ((contF s.tm p x).1 / (contF s.tm p x).2).toNat < tk.tones.length := by omega
      refine ED.is (ed_ixT (ev 3) (ev 4) (atI_map (f := Dt.int) (j := ((contF s.tm p x).1 / (contF s.tm p x).2).toNat) (by omega) (List.getElem?_eq_getElem hlt))) ?_
      unfold toneF
      rw [if_pos hq', List.getD_eq_getElem?_getD, List.getElem?_eq_getElem hlt]
      rfl
    · have hq' := of_decide_eq_false hq
      unfold toneF
      rw [if_neg hq']
theorem c_sound_by (Z : En W) (A : At W "sound_by" s_sound_by) (C_level_by : Cal W T 5 "level_by" P_level_by R_level_by) (C_times : Cal W T 3 "times" P_times R_times) (C_covers : Cal W T 2 "covers" P_covers R_covers) (C_minus : Cal W T 3 "minus" P_minus R_minus) (C_as_fraction : Cal W T 1 "as_fraction" P_as_fraction R_as_fraction) (C_tone_by : Cal W T 10 "tone_by" P_tone_by R_tone_by) : Cal W T 11 "sound_by" P_sound_by R_sound_by :=
  cal_of A sc_sound_by bn_sound_by fun f cdv Ar outer s H E ds d hr g hl => by
    cases g with | @mk s p tk x hs h ht hk hx h0 hc hv =>
    have hm := minusF_fb hx (at_fb h)
    have hlv := levF_fb h.sh (hm.up (n := 100) (by decide))
    refine ws_cons (w1_ifF (TD.is (td_not (td_val (ed_call C_covers (hr.mono (by decide)) (by rfl) (ad_cons (ev 1) (ad_cons (ev 2) ad_nil)) (.mk h hx)))) (by rw [hv]; rfl)) (ws_nil ?_))
    refine ws_cons (w1_setp (ix := 3) (ed_call C_level_by (hr.mono (by decide)) (by rfl) (ad_cons (ed_ixT (ev 1) ed_int rfl) (ad_cons (ed_call C_minus (hr.mono (by decide)) (by rfl) (ad_cons (ev 2) (ad_cons (ed_call C_as_fraction (hr.mono (by decide)) (by rfl) (ad_cons (ed_ixT (ev 1) ed_int rfl) ad_nil) .mk) ad_nil)) (.mk hx (at_fb h) (by decide))) ad_nil)) (.mk h.sh (hm.up (by decide)))) ?_ (by exact sc_sound_by.nd) (by rfl) (by first | exact .inl rfl | exact .inr rfl))
    refine ws_one (w1_retp (ed_call C_times (hr.mono (by decide)) (by rfl) (ad_cons (ed_call C_as_fraction (hr.mono (by decide)) (by rfl) (ad_cons (ed_call C_tone_by (hr.mono (by decide)) (by rfl) (ad_cons (ev 0) (ad_cons (ev 1) (ad_cons (ev 2) ad_nil))) (.mk hs h ht hk hx h0 hc)) ad_nil) .mk) (ad_cons (ev 3) ad_nil)) (.mk (as_fb (toneF_bt hk) (by decide)) hlv (by decide))) rfl)
theorem c_highest_by (Z : En W) (A : At W "highest_by" s_highest_by) (C_covers : Cal W T 2 "covers" P_covers R_covers) : Cal W T 3 "highest_by" P_highest_by R_highest_by :=
  cal_of A sc_highest_by bn_highest_by fun f cdv Ar outer s H E ds d hr g hl => by
    cases g with | @mk l x h hx =>
    refine ws_find (xs := l.pcs.reverse) (f := Pc.d) (p := fun p => coversB p x) (startR N_highest_by [l.d, frp x]) rfl (tg_n (j := 2) sc_highest_by.nd rfl (.inl rfl)) Agr.refl (iw_rev (by rfl) Z.n_reversed (ed_ixT (ev 0) ed_int rfl) ⟨by rw [List.map_reverse], rfl⟩) ?_ ?_
    · intro a ha
      refine ⟨_, rfl, ⟨rfl, rfl, trivial⟩, (td_val (ed_call C_covers (hr.mono (by decide)) (by rfl) (ad_cons (ev 2) (ad_cons (ev 1) ad_nil)) (.mk (h _ (List.mem_reverse.mp ha)) hx))), fun hf nx bk ct => ?_⟩
      have e : hiF l x = some a := hf
      refine ws_one (w1_retp (ev 2) (by rw [e]; rfl))
    · intro hf
      have e : hiF l x = none := hf
      refine ws_one (w1_retp ed_non (by rw [e]; rfl))
theorem c_lane_by_place (Z : En W) (A : At W "lane_by_place" s_lane_by_place) (C_highest_by : Cal W T 3 "highest_by" P_highest_by R_highest_by) (C_times : Cal W T 3 "times" P_times R_times) (C_sound_by : Cal W T 11 "sound_by" P_sound_by R_sound_by) : Cal W T 12 "lane_by_place" P_lane_by_place R_lane_by_place :=
  cal_of A sc_lane_by_place bn_lane_by_place fun f cdv Ar outer s H E ds d hr g hl => by
    cases g with | @mk s l p tk x hln h1 h2 hs ht hk hx h0 hc =>
    have hp : GPc p := hln.pc p (List.mem_reverse.mp (List.mem_of_find?_eq_some h1))
    have hv : coversB p x = true := List.find?_some (p := fun p => coversB p x) h1
    have hm := minusF_fb hx (at_fb hp)
    have hlv := levF_fb hp.sh (hm.up (n := 100) (by decide))
    have hsn : FBp 440 (soundF s.tm tk.tones p x) := timesF_fb (as_fb (toneF_bt hk) (by decide)) hlv
    refine ws_cons (w1_setp (ix := 3) (ED.is (ed_call C_highest_by (hr.mono (by decide)) (by rfl) (ad_cons (ev 1) (ad_cons (ev 2) ad_nil)) (.mk hln.pc hx)) (show oPc (hiF l x) = p.d by rw [h1]; rfl)) ?_ sc_lane_by_place.nd rfl (.inl rfl))
    refine ws_cons (w1_ifF (TD.is (td_w (wd_or (td_k kd_is (ev 3) ed_non) fun hq => (wd_or1 (td_k kd_eqI (ed_ixT (ev 1) ed_int rfl) ed_int)))) (by rw [h2]; rfl)) (ws_nil ?_))
    refine ws_one (w1_retp (ed_call C_times (hr.mono (by decide)) (by rfl) (ad_cons (ed_ixT (ev 1) ed_int rfl) (ad_cons (ed_call C_sound_by (hr.mono (by decide)) (by rfl) (ad_cons (ev 0) (ad_cons (ev 3) (ad_cons (ev 2) ad_nil))) (.mk hs hp ht hk hx h0 hc hv)) ad_nil)) (.mk hln.g.fb hsn (by decide))) rfl)
theorem c_looked_up (Z : En W) (A : At W "looked_up" s_looked_up) (C_must_be_sheet : Cal W T 9 "must_be_sheet" P_must_be_sheet R_must_be_sheet) (C_piece_by : Cal W T 3 "piece_by" P_piece_by R_piece_by) (C_must_be_place : Cal W T 4 "must_be_place" P_must_be_place R_must_be_place) : Cal W T 10 "looked_up" P_looked_up R_looked_up :=
  cal_of A sc_looked_up bn_looked_up fun f cdv Ar outer s H E ds d hr g hl => by
    cases g with | @mk s n p x hs h1 h2 h hx h0 =>
    refine ws_cons (w1_expr (we_p (ed_call C_must_be_sheet (hr.mono (by decide)) (by rfl) (ad_cons (ev 0) ad_nil) (.mk hs)) ?_))
    refine ws_cons (w1_setp (ix := 3) (ed_call C_piece_by (hr.mono (by decide)) (by rfl) (ad_cons (ev 0) (ad_cons (ev 1) ad_nil)) (.mk hs.few h1 h2 h)) ?_ (by exact sc_looked_up.nd) (by rfl) (by first | exact .inl rfl | exact .inr rfl))
    refine ws_cons (w1_expr (we_p (ed_call C_must_be_place (hr.mono (by decide)) (by rfl) (ad_cons (ev 2) ad_nil) (.mk hx h0)) ?_))
    refine ws_one (w1_retp (ev 3) rfl)
theorem c_sound_at (Z : En W) (A : At W "sound_at" s_sound_at) (C_sound_by : Cal W T 11 "sound_by" P_sound_by R_sound_by) (C_looked_up : Cal W T 10 "looked_up" P_looked_up R_looked_up) : Cal W T 12 "sound_at" P_sound_at R_sound_at :=
  cal_of A sc_sound_at bn_sound_at fun f cdv Ar outer s H E ds d hr g hl => by
    cases g with | @mk s n p tk x hs hp h h1 h2 ht hk hx h0 hc hv =>
    refine ws_one (w1_retp (ed_call C_sound_by (hr.mono (by decide)) (by rfl) (ad_cons (ev 0) (ad_cons (ed_call C_looked_up (hr.mono (by decide)) (by rfl) (ad_cons (ev 0) (ad_cons (ev 1) (ad_cons (ev 2) ad_nil))) (.mk hs h1 h2 h hx.fv h0)) (ad_cons (ev 2) ad_nil))) (.mk hs.tm hp ht hk hx.fb h0 hc hv)) rfl)
theorem c_lane_at (Z : En W) (A : At W "lane_at" s_lane_at) (C_must_be_sheet : Cal W T 9 "must_be_sheet" P_must_be_sheet R_must_be_sheet) (C_lane_by : Cal W T 1 "lane_by" P_lane_by R_lane_by) (C_must_be_place : Cal W T 4 "must_be_place" P_must_be_place R_must_be_place) (C_lane_by_place : Cal W T 12 "lane_by_place" P_lane_by_place R_lane_by_place) : Cal W T 13 "lane_at" P_lane_at R_lane_at :=
  cal_of A sc_lane_at bn_lane_at fun f cdv Ar outer s H E ds d hr g hl => by
    cases g with | @mk s nm l p tk x hs hb hln h1 h2 ht hk hx h0 hc =>
    refine ws_cons (w1_expr (we_p (ed_call C_must_be_sheet (hr.mono (by decide)) (by rfl) (ad_cons (ev 0) ad_nil) (.mk hs)) ?_))
    refine ws_cons (w1_setp (ix := 3) (ed_call C_lane_by (hr.mono (by decide)) (by rfl) (ad_cons (ev 0) (ad_cons (ev 1) ad_nil)) (.mk hb)) ?_ (by exact sc_lane_at.nd) (by rfl) (by first | exact .inl rfl | exact .inr rfl))
    refine ws_cons (w1_expr (we_p (ed_call C_must_be_place (hr.mono (by decide)) (by rfl) (ad_cons (ev 2) ad_nil) (.mk hx.fv h0)) ?_))
    refine ws_one (w1_retp (ed_call C_lane_by_place (hr.mono (by decide)) (by rfl) (ad_cons (ev 0) (ad_cons (ev 3) (ad_cons (ev 2) ad_nil))) (.mk hln h1 h2 hs.tm ht hk hx.fb h0 hc)) rfl)
end
end BL
set_option maxHeartbeats 4000000
/-! defs: runs, the two deeds -/
namespace BL
open PySem PySem.Spec PyProof.Rows L2 Evl
structure GLs (l : Ln) : Prop where
  pc : ∀ p ∈ l.pcs, GPc p
  len : l.pcs.length ≤ 14
inductive R_runs_by : List Dt → Dt → Prop where
  | mk {l : Ln} (h : GLs l) : R_runs_by [l.d] (.lst ((runsF l).map rnD))
inductive R_runs_of : List Dt → Dt → Prop where
  | mk {s : Sh} {nm : Str} {l : Ln} (hs : GSh s) (hb : lnBy s nm = some l) (h : GLs l) : R_runs_of [s.d, .str nm] (.lst ((runsF l).map rnD))
def othF (l : Ln) (n : Int) : List Pc := l.pcs.filter fun p => !decide (p.n = n)
inductive R_shift : List Dt → Dt → Prop where
  | mk {s : Sh} {n : Int} {nm : Str} {p : Pc} {l l' l2 l3 : Ln} (hs : GSh s) (h1 : 1 ≤ n) (h2 : n ≤ 99999) (h : pcBy s n = some p) (hb : lnBy s nm = some l2) (ho : lnOf s n = some l) (hn : lnBy s l.name = some l') (h3 : lnBy (s.setLn (l'.setPcs (othF l n))) nm = some l3) (h3l : l3.pcs.length ≤ 60) :
    R_shift [s.d, .int n, .str nm] ((s.setLn (l'.setPcs (othF l n))).setLn (l3.setPcs (l3.pcs ++ [p]))).d
inductive R_raise_to : List Dt → Dt → Prop where
  | mk {s : Sh} {n : Int} {r : Nat} {p : Pc} {l l' : Ln} (hs : GSh s) (h1 : 1 ≤ n) (h2 : n ≤ 99999) (h : pcBy s n = some p) (ho : lnOf s n = some l) (hn : lnBy s l.name = some l') (hr : r ≤ (othF l n).length) :
    R_raise_to [s.d, .int n, .int (r : Int)] (s.setLn (l'.setPcs ((othF l n).take r ++ [p] ++ (othF l n).drop r))).d
/-- t + u, one of them perhaps empty -/
theorem ed_catTA {T : Tb} {X : Cx} {ρ : Rho} {a b : Expr} {pos : Pos} {xs ys : List Dt} (ha : ED T X a ρ (.tup xs)) (hb : ED T X b ρ (.tup ys)) (h : xs.length + ys.length ≤ sizeLine) : ED T X (.BinOp a .Add b pos) ρ (.tup (xs ++ ys)) :=
  ed_op op_catA (fun F H x y Q f r1 r2 k => by
    obtain ⟨p, us, e1, s1, q1⟩ := rp_tup.mp r1
    obtain ⟨q, ws, e2, s2, q2⟩ := rp_tup.mp r2
    have l1 := q1.length
    have l2 := q2.length
    refine ⟨p, q, us, ws, e1, e2, ex_t f.sub s1, ex_t f.sub s2, by omega, fun z => ?_, fun _ z => ?_, fun _ _ n hn => ?_⟩
    · subst z
      have : xs = [] := List.length_eq_zero_iff.mp l1.symm
      subst this
      rw [← e2]
      exact k y F H f (Stp.refl _ _ _) r2
    · subst z
      have : ys = [] := List.length_eq_zero_iff.mp l2.symm
      subst this
      rw [← e1, List.append_nil] at *
      exact k x F H f (Stp.refl _ _ _) r1
    · obtain ⟨f', s', r'⟩ := cat_new hn f (q1.append q2)
      exact k _ _ _ f' s' r') ha hb
theorem cut_drop {α : Type} {xs : List α} {f : α → Dt} {i : Nat} (h : i ≤ xs.length) : cutD (xs.map f) (some (i : Int)) none = (xs.drop i).map f := by
  unfold cutD
  rw [HT.sIx_none, HT.sIx_nat, List.length_map, Nat.min_eq_left h, ← List.map_drop]
  refine List.take_of_length_le ?_
  simp
theorem cut_tail {α : Type} {xs : List α} {f : α → Dt} : cutD (xs.map f) (some 1) none = xs.tail.map f := by
  cases xs with
  | nil => rfl
  | cons x xs =>
    have := cut_drop (xs := x :: xs) (f := f) (i := 1) (by simp)
    exact this
section
variable {W : Wo} {T : Tb}
theorem c_raise_to (Z : En W) (A : At W "raise_to" s_raise_to) (C_must_be_sheet : Cal W T 9 "must_be_sheet" P_must_be_sheet R_must_be_sheet) (C_piece_by : Cal W T 3 "piece_by" P_piece_by R_piece_by) (C_lane_of : Cal W T 1 "lane_of" P_lane_of R_lane_of) (C_with_pieces : Cal W T 2 "with_pieces" P_with_pieces R_with_pieces) (C_is_from : Cal W T 2 "is_from" P_is_from R_is_from) : Cal W T 10 "raise_to" P_raise_to R_raise_to :=
  cal_of A sc_raise_to bn_raise_to fun f cdv Ar outer s H E ds d hr g hl => by
    cases g with | @mk s n r p l l' hs h1 h2 h ho hn hrk =>
    have hm : l ∈ s.lns := List.mem_of_find?_eq_some ho
    have hb := hs.few.pcs hm
    have hol : (othF l n).length ≤ 60 := Nat.le_trans (List.length_filter_le _ _) hb
    refine ws_cons (w1_expr (we_p (ed_call C_must_be_sheet (hr.mono (by decide)) (by rfl) (ad_cons (ev 0) ad_nil) (.mk hs)) ?_))
    refine ws_cons (w1_setp (ix := 3) (ed_call C_piece_by (hr.mono (by decide)) (by rfl) (ad_cons (ev 0) (ad_cons (ev 1) ad_nil)) (.mk hs.few h1 h2 h)) ?_ (by exact sc_raise_to.nd) (by rfl) (by first | exact .inl rfl | exact .inr rfl))
    refine ws_cons (w1_setp (ix := 4) (ed_call C_lane_of (hr.mono (by decide)) (by rfl) (ad_cons (ev 0) (ad_cons (ev 1) ad_nil)) (.mk hs.few ho)) ?_ (by exact sc_raise_to.nd) (by rfl) (by first | exact .inl rfl | exact .inr rfl))
    refine ws_cons (w1_lc1 (ix := 5) (j := 6) (xs := l.pcs) (f := Pc.d) (g := Pc.d) (b := fun p => !decide (p.n = n)) (iw_tupp (ed_ixT (ev 4) ed_int rfl) ⟨rfl, rfl⟩) rfl sc_raise_to.nd (by show BlkOk N_raise_to (defScope s_raise_to) _ _; exact blkOk_by (by decide +kernel)) (pgB sc_raise_to.nd rfl rfl) (by omega) (fun x0 h0 _ _ _ _ _ => (td_k kd_neI (ed_ixT (ev 6) ed_int rfl) (ev 1))) (fun x0 h0 hb0 _ _ _ _ _ => (ev 6)) ?_ rfl rfl)
    show WS T _ _ ((setAll (startR N_raise_to [s.d, .int n, .int (r : Int)]) [3, 4] [p.d, l.d]).set 5 (some (.lst ((othF l n).map Pc.d)))) _ _
    refine ws_cons (w1_ifF (TD.is (td_not (td_val (ed_call C_is_from (hr.mono (by decide)) (by rfl) (ad_cons (ev 2) (ad_cons ed_int (ad_cons (ed_b (bd_lenL Z.n_len) (by rfl) (ad_cons (ev 5) ad_nil)) ad_nil))) .mk))) (by rw [List.length_map, decide_eq_true (show (0 : Int) ≤ (r : Int) by omega), decide_eq_true (show (r : Int) ≤ (othF l n).length by omega)]; rfl)) (ws_nil ?_))
    refine ws_one (w1_retp (ed_call C_with_pieces (hr.mono (by decide)) (by rfl) (ad_cons (ev 0) (ad_cons (ed_ixT (ev 4) ed_int rfl) (ad_cons (ED.is (d' := .lst (((othF l n).take r ++ [p] ++ (othF l n).drop r).map Pc.d)) (ed_catL (ed_catL (ed_slL (ev 5) od_none (od_some (ev 2))) (ed_lst (ad_cons (ev 3) ad_nil)) ?_) (ed_slL (ev 5) (od_some (ev 2)) od_none) ?_) ?_) ad_nil))) (.lst hs.few.l hn)) rfl)
    · rw [cut_take (by omega)]
      simp
      have : sizeLine = 2 ^ 24 := rfl
      omega
    · rw [cut_take (by omega), cut_drop (by omega)]
      simp
      have : sizeLine = 2 ^ 24 := rfl
      omega
    · rw [cut_take (by omega), cut_drop (by omega)]
      simp
theorem c_shift (Z : En W) (A : At W "shift" s_shift) (C_must_be_sheet : Cal W T 9 "must_be_sheet" P_must_be_sheet R_must_be_sheet) (C_piece_by : Cal W T 3 "piece_by" P_piece_by R_piece_by) (C_lane_by : Cal W T 1 "lane_by" P_lane_by R_lane_by) (C_with_piece : Cal W T 3 "with_piece" P_with_piece R_with_piece) (C_with_pieces : Cal W T 2 "with_pieces" P_with_pieces R_with_pieces) : Cal W T 10 "shift" P_shift R_shift :=
  cal_of A sc_shift bn_shift fun f cdv Ar outer s H E ds d hr g hl => by
    cases g with | @mk s n nm p l l' l2 l3 hs h1 h2 h hb ho hn h3 h3l =>
    refine ws_cons (w1_expr (we_p (ed_call C_must_be_sheet (hr.mono (by decide)) (by rfl) (ad_cons (ev 0) ad_nil) (.mk hs)) ?_))
    refine ws_cons (w1_setp (ix := 3) (ed_call C_piece_by (hr.mono (by decide)) (by rfl) (ad_cons (ev 0) (ad_cons (ev 1) ad_nil)) (.mk hs.few h1 h2 h)) ?_ (by exact sc_shift.nd) (by rfl) (by first | exact .inl rfl | exact .inr rfl))
    refine ws_cons (w1_expr (we_p (ed_call C_lane_by (hr.mono (by decide)) (by rfl) (ad_cons (ev 0) (ad_cons (ev 2) ad_nil)) (.mk hb)) ?_))
    refine ws_cons (w1_setp (ix := 4) (ed_call C_with_piece (hr.mono (by decide)) (by rfl) (ad_cons (ev 0) (ad_cons (ev 1) (ad_cons (ed_lst ad_nil) ad_nil))) (.mk hs.few ho hn)) ?_ (by exact sc_shift.nd) (by rfl) (by first | exact .inl rfl | exact .inr rfl))
    have e1 : (s.setLn (l'.setPcs (othF l n))).lns.length ≤ 12 := by
      show (s.lns.map _).length ≤ 12
      rw [List.length_map]
      exact hs.few.l
    refine ws_one (w1_retp (ed_call C_with_pieces (hr.mono (by decide)) (by rfl) (ad_cons (ev 4) (ad_cons (ev 2) (ad_cons (ED.is (d' := .tup ((l3.pcs ++ [p]).map Pc.d)) (ed_catTA (ed_ixT (ed_call C_lane_by (hr.mono (by decide)) (by rfl) (ad_cons (ev 4) (ad_cons (ev 2) ad_nil)) (R_lane_by.mk (s := s.setLn (l'.setPcs (othF l n))) h3)) ed_int rfl) (ed_tup (ad_cons (ev 3) ad_nil)) ?_) ?_) ad_nil))) (R_with_pieces.tup (s := s.setLn (l'.setPcs (othF l n))) e1 h3)) rfl)
    · rw [List.length_map]
      show l3.pcs.length + 1 ≤ sizeLine
      have : sizeLine = 2 ^ 24 := rfl
      omega
    · rw [List.map_append]
      rfl
end
end BL
set_option maxHeartbeats 4000000
/-! defs: runs -/
namespace BL
open PySem PySem.Spec PyProof.Rows L2 Evl
abbrev beD (be : Int × Int) : Dt := .tup [.int be.1, .int be.2]
theorem spans_map {ps : List Pc} : ((((edgesF ps).map Dt.int).zip ((edgesF ps).tail.map Dt.int)).map fun p => Dt.tup [p.1, p.2]) = (spansF ps).map beD := by
  unfold spansF
  rw [List.zip_map, List.map_map]
  rfl
theorem edge_ok {ps : List Pc} (h : ∀ p ∈ ps, GPc p) {e : Int} (he : e ∈ edgesF ps) : 0 ≤ e ∧ e ≤ 76 := by
  unfold edgesF at he
  rw [uS_mem, List.mem_append, List.mem_map, List.mem_map] at he
  have key : ∀ p ∈ ps, 0 ≤ p.at_ ∧ p.at_ ≤ 60 ∧ 1 ≤ p.many ∧ p.many ≤ 16 := fun p hp => ⟨(h p hp).a1, (h p hp).a2, (h p hp).m1, (h p hp).m2⟩
  rcases he with ⟨p, hp, rfl⟩ | ⟨p, hp, rfl⟩
  · have := key p hp; omega
  · have := key p hp; omega
theorem wd_andF {T : Tb} {X : Cx} {ρ : Rho} {a b : Expr} {rest : List Expr} {pos : Pos} (h : TD T X a ρ false) : WD T X (.BoolOp .And (a :: b :: rest) pos) ρ false := wd_and (u := false) h fun z => by cases z
theorem cln_rns {n : Nat} {acc : List Rn} : Cln (n + 2) (.lst (acc.map rnD)) := cln_mapL fun r _ => cln_cons cln_int (cln_cons cln_int (cln_cons cln_int cln_nil))
theorem and3 {a b c x : Bool} (ha : a = true) (hb : b = true) (hc : c = x) : (a && (b && c)) = x := by rw [ha, hb, hc]; rfl
theorem ixN_last {n : Nat} : ixN (n + [()].length) (-1) = some (n + [()].length - 1) := by
  unfold ixN
  rw [if_neg (by decide), if_pos (by simp; omega)]
  congr 1
  simp
  omega
theorem cln_lnil {n : Nat} : Cln (n + 1) (.lst []) := fun d hd => by simp at hd
theorem runs_len {l : Ln} {sp : List (Int × Int)} : ∀ {acc : List Rn}, (sp.foldl (runStep l) acc).length ≤ acc.length + sp.length := by
  induction sp with
  | nil =>
    intro acc
    simp
  | cons be sp ih =>
    intro acc
    rw [List.foldl_cons]
    refine Nat.le_trans ih ?_
    have : (runStep l acc be).length ≤ acc.length + 1 := by
      unfold runStep
      split
      · omega
      · split
        · split
          · rw [List.length_append, List.length_dropLast]; simp only [List.length_cons, List.length_nil]; omega
          · simp
        · simp
    simp only [List.length_cons]
    omega
section
variable {W : Wo} {T : Tb}
theorem c_runs_by (Z : En W) (A : At W "runs_by" s_runs_by) (C_highest_by : Cal W T 3 "highest_by" P_highest_by R_highest_by) (C_as_fraction : Cal W T 1 "as_fraction" P_as_fraction R_as_fraction) : Cal W T 4 "runs_by" P_runs_by R_runs_by :=
  cal_of A sc_runs_by bn_runs_by fun f cdv Ar outer s H E ds d hr g hl => by
    cases g with | @mk l h =>
    have hlen := h.len
    refine ws_cons (w1_setp (ix := 2) (ed_sortSet (ns := l.pcs.map Pc.at_ ++ l.pcs.map fun p => p.at_ + p.many) Z.n_sorted Z.n_set (ED.is (ed_catL (ed_lc0 (j := 1) (xs := l.pcs) (f := Pc.d) (g := fun p => .int p.at_) (iw_tupp (ed_ixT (ev 0) ed_int rfl) ⟨rfl, rfl⟩) rfl sc_runs_by.nd (by show BlkOk N_runs_by (defScope s_runs_by) _ _; exact blkOk_by (by decide +kernel)) (pgB sc_runs_by.nd rfl rfl) (by omega) (fun _ _ _ _ _ _ _ => (ed_ixT (ev 1) ed_int rfl))) (ed_lc0 (j := 1) (xs := l.pcs) (f := Pc.d) (g := fun p => .int (p.at_ + p.many)) (iw_tupp (ed_ixT (ev 0) ed_int rfl) ⟨rfl, rfl⟩) rfl sc_runs_by.nd (by show BlkOk N_runs_by (defScope s_runs_by) _ _; exact blkOk_by (by decide +kernel)) (pgB sc_runs_by.nd rfl rfl) (by omega) (fun _ _ _ _ _ _ _ => (ed_add (ed_ixT (ev 1) ed_int rfl) (ed_ixT (ev 1) ed_int rfl)))) ?_) ?_) ?_) ?_ sc_runs_by.nd rfl (.inl rfl))
    · rw [List.length_map, List.length_map]
      have : sizeLine = 2 ^ 24 := rfl
      omega
    · rw [List.map_append, List.map_map, List.map_map]
      rfl
    · rw [List.length_append, List.length_map, List.length_map]
      omega
    have hsp : (spansF l.pcs).length ≤ 28 := by
      unfold spansF
      rw [List.length_zip]
      have := uS_len (xs := l.pcs.map Pc.at_ ++ l.pcs.map fun p => p.at_ + p.many)
      rw [List.length_append, List.length_map, List.length_map] at this
      unfold edgesF
      omega
    refine ws_cons (w1_newL (ix := 3) ad_nil (fun q => ?_) sc_runs_by.nd rfl (.inl rfl))
    refine ws_for (xs := spansF l.pcs) (f := beD) (fun _ => [some l.d, none, some (.lst ((edgesF l.pcs).map .int)), some (.adr q), none, none]) (fun i M' => M' = [(q, .lst ((((spansF l.pcs).take i).foldl (runStep l) []).map rnD))]) rfl (tg_t (is := [4, 5]) rfl (tgc (tgc Tg.nil sc_runs_by.nd) sc_runs_by.nd)) ⟨rfl, rfl, rfl, trivial⟩ (iw_zip (hpi := pi_zip (by rfl) Z.n_zip pa_w) (by rfl) Z.n_zip (ad_cons (ev 2) (ad_cons (ED.is (ed_slL (ev 2) (od_some ed_int) od_none) (congrArg Dt.lst cut_tail)) ad_nil)) ⟨spans_map, rfl⟩) ?_ ?_
    · rintro i be M' hi rfl
      have hbe : be.1 ∈ edgesF l.pcs := by
        have := List.mem_of_getElem? hi
        unfold spansF at this
        exact (List.of_mem_zip this).1
      obtain ⟨hb0, hb1⟩ := edge_ok h.pc hbe
      have hfb : FBp 40 (be.1, 1) := as_fb (bt_of (by simp; omega) (by simp; omega)) (by decide)
      have hal : (((spansF l.pcs).take i).foldl (runStep l) []).length ≤ 28 := by
        have := runs_len (l := l) (sp := (spansF l.pcs).take i) (acc := [])
        rw [List.length_take] at this
        simp at this
        omega
      have hst : ((spansF l.pcs).take (i + 1)).foldl (runStep l) [] = runStep l (((spansF l.pcs).take i).foldl (runStep l) []) be := by
        rw [List.take_add_one, hi, List.foldl_append]
        rfl
      rw [hst]
      generalize ((spansF l.pcs).take i).foldl (runStep l) [] = acc at *
      refine ⟨_, rfl, ?_⟩
      refine ws_cons (w1_setp (ix := 1) (ed_call C_highest_by (hr.mono (by decide)) (by rfl) (ad_cons (ev 0) (ad_cons (ed_call C_as_fraction (hr.mono (by decide)) (by rfl) (ad_cons (ev 4) ad_nil) .mk) ad_nil)) (R_highest_by.mk (x := (be.1, 1)) h.pc hfb)) ?_ sc_runs_by.nd rfl (.inl rfl))
      cases hh : hiF l (be.1, 1) with
      | none =>
        have e1 : runStep l acc be = acc := by unfold runStep; rw [hh]
        rw [e1]
        refine ws_one (w1_if (wt_view (n := 0) (ix := 3) rfl rfl (t := false) (td_w (wd_andF (TD.is (td_k kd_isnot (ev 1) ed_non) rfl))) ?_))
        refine iteF (ws_one (w1_ifF (TD.is (td_k kd_isnot (ev 1) ed_non) rfl) (ws_nil ⟨⟨rfl, rfl, rfl, trivial⟩, rfl⟩)))
      | some p =>
        cases hl2 : acc.getLast? with
        | none =>
          have ea : acc = [] := by rw [List.getLast?_eq_none_iff] at hl2; exact hl2
          subst ea
          have e1 : runStep l [] be = [(be.1, be.2, p.n)] := by unfold runStep; rw [hh]; rfl
          rw [e1]
          refine ws_one (w1_if (wt_view (n := 0) (ix := 3) rfl rfl (t := false) (TD.is (td_w (wd_and (td_k kd_isnot (ev 1) ed_non) fun z => wd_andF (TD.is (td_neD (ev 3) (ed_lst ad_nil) (by exact cln_lnil) (by exact cln_lnil) hr.units) (show (!eqD (.lst []) (.lst [])) = false by rw [eqD_t rfl]; rfl)))) rfl) ?_))
          refine iteF (ws_one (w1_ifT (TD.is (td_k kd_isnot (ev 1) ed_non) rfl) (ws_one (w1_expr (we_app (ev 3) (n := 0) rfl (we_p (ed_tup (ad_cons (ev 4) (ad_cons (ev 5) (ad_cons (ed_ixT (ds := [.int p.n, .str p.take, .int p.at_, .int p.many, .str p.way, frp p.start, frp p.speed, spD p.shape]) (ev 1) ed_int rfl) ad_nil)))) ⟨_, rfl, by show (0 : Nat) < 100000; decide, ⟨rfl, rfl, rfl, trivial⟩, rfl⟩))))))
        | some r =>
          obtain ⟨ini, rfl⟩ : ∃ ini, acc = ini ++ [r] := List.getLast?_eq_some_iff.mp hl2
          have hlast : (ini ++ [r])[(ini ++ [r]).length - 1]? = some r := by simp
          have hnl : (!eqD (.lst ((ini ++ [r]).map rnD)) (.lst [])) = true := by
            rw [eqD_f fun w => by simp at w]; rfl
          by_cases hq : r.2.1 = be.1 ∧ r.2.2 = p.n
          · have e1 : runStep l (ini ++ [r]) be = ini ++ [(r.1, be.2, p.n)] := by
              unfold runStep
              rw [hh, hl2]
              simp only
              rw [if_pos hq, List.dropLast_concat]
            rw [e1]
            have heq : eqD (.tup [.int r.2.1, .int r.2.2]) (.tup [.int be.1, .int p.n]) = true := by rw [hq.1, hq.2]; exact eqD_t rfl
            refine ws_one (w1_if (wt_view (n := 0) (ix := 3) rfl rfl (t := true) (TD.is (td_w (wd_and (td_k kd_isnot (ev 1) ed_non) fun hq => (wd_and (td_neD (ev 3) (ed_lst ad_nil) (by exact cln_rns) (by exact cln_lnil) hr.units) fun hq => (wd_and1 (td_eqD (ed_slT (ed_ixL (ev 3) (ed_neg ed_int) (atI_last (f := rnD) hlast)) (od_some ed_int) od_none (by exact of_decide_eq_true rfl)) (ed_tup (ad_cons (ev 4) (ad_cons (ed_ixT (ev 1) ed_int rfl) ad_nil))) (by exact (cln_cons cln_int (cln_cons cln_int cln_nil))) (by exact (cln_cons cln_int (cln_cons cln_int cln_nil))) hr.units))))) (and3 rfl hnl heq)) ?_))
            refine iteT (ws_one (w1_setix (n := 0) (we_view (n := 0) (ix := 3) rfl rfl (ed_tup (ad_cons (ed_ixT (ed_ixL (ev 3) (ed_neg ed_int) (atI_last (f := rnD) hlast)) ed_int rfl) (ad_cons (ev 5) (ad_cons (ed_ixT (ev 1) ed_int rfl) ad_nil)))) rfl ⟨_, -1, rfl, ev 3, ed_neg ed_int, by rw [List.length_map, List.length_append]; exact ixN_last, ⟨⟨rfl, rfl, rfl, trivial⟩, ?_⟩⟩)))
            show [(q, MO.lst _)] = _
            rw [List.map_append, List.map_append, List.set_append_right (h := by rw [List.length_map]; exact Nat.le_refl _), List.length_map, show ini.length + [()].length - 1 - ini.length = 0 by simp]
            rfl
          · have e1 : runStep l (ini ++ [r]) be = ini ++ [r] ++ [(be.1, be.2, p.n)] := by
              unfold runStep
              rw [hh, hl2]
              simp only
              rw [if_neg hq]
            rw [e1]
            have heq : eqD (.tup [.int r.2.1, .int r.2.2]) (.tup [.int be.1, .int p.n]) = false := eqD_f fun w => hq (by
              have w := Dt.tup.inj w
              exact ⟨Dt.int.inj (List.cons.inj w).1, Dt.int.inj (List.cons.inj (List.cons.inj w).2).1⟩)
            refine ws_one (w1_if (wt_view (n := 0) (ix := 3) rfl rfl (t := false) (TD.is (td_w (wd_and (td_k kd_isnot (ev 1) ed_non) fun hq => (wd_and (td_neD (ev 3) (ed_lst ad_nil) (by exact cln_rns) (by exact cln_lnil) hr.units) fun hq => (wd_and1 (td_eqD (ed_slT (ed_ixL (ev 3) (ed_neg ed_int) (atI_last (f := rnD) hlast)) (od_some ed_int) od_none (by exact of_decide_eq_true rfl)) (ed_tup (ad_cons (ev 4) (ad_cons (ed_ixT (ev 1) ed_int rfl) ad_nil))) (by exact (cln_cons cln_int (cln_cons cln_int cln_nil))) (by exact (cln_cons cln_int (cln_cons cln_int cln_nil))) hr.units))))) (and3 rfl hnl heq)) ?_))
            refine iteF (ws_one (w1_ifT (TD.is (td_k kd_isnot (ev 1) ed_non) rfl) (ws_one (w1_expr (we_app (ev 3) (n := 0) rfl (we_p (ed_tup (ad_cons (ev 4) (ad_cons (ev 5) (ad_cons (ed_ixT (ds := [.int p.n, .str p.take, .int p.at_, .int p.many, .str p.way, frp p.start, frp p.speed, spD p.shape]) (ev 1) ed_int rfl) ad_nil)))) ⟨_, rfl, by rw [List.length_map]; omega, ⟨rfl, rfl, rfl, trivial⟩, ?_⟩))))))
            show [(q, MO.lst _)] = _
            rw [List.map_append (l₁ := ini ++ [r])]
            rfl
    · rintro M' rfl
      rw [List.take_length]
      refine ws_freeze (n := 0) (ix := 3) rfl rfl ?_
      refine ws_one (w1_retp (ev 3) rfl)
theorem c_runs_of (Z : En W) (A : At W "runs_of" s_runs_of) (C_must_be_sheet : Cal W T 9 "must_be_sheet" P_must_be_sheet R_must_be_sheet) (C_runs_by : Cal W T 4 "runs_by" P_runs_by R_runs_by) (C_lane_by : Cal W T 1 "lane_by" P_lane_by R_lane_by) : Cal W T 10 "runs_of" P_runs_of R_runs_of :=
  cal_of A sc_runs_of bn_runs_of fun f cdv Ar outer s H E ds d hr g hl => by
    cases g with | @mk s nm l hs hb h =>
    refine ws_cons (w1_expr (we_p (ed_call C_must_be_sheet (hr.mono (by decide)) (by rfl) (ad_cons (ev 0) ad_nil) (.mk hs)) ?_))
    refine ws_one (w1_retp (ed_call C_runs_by (hr.mono (by decide)) (by rfl) (ad_cons (ed_call C_lane_by (hr.mono (by decide)) (by rfl) (ad_cons (ev 0) (ad_cons (ev 1) ad_nil)) (.mk hb)) ad_nil) (.mk h)) rfl)
end
end BL
set_option maxHeartbeats 4000000
/-! plain data: sheets with one piece put otherwise -/
namespace BL
open PySem PySem.Spec PyProof.Rows L2 Evl
/-! ### by rank -/
def pRn (p : Pc) : Rn := (p.at_, p.at_ + p.many, p.n)
def brGo (acc : KI) (ps : List Pc) : KI := ps.foldl (fun acc p => mergeI acc (stepsD [pRn p])) acc
def brLn (nm : Str) (acc : KI) (l : Ln) : KI := if l.name = nm then brGo acc l.pcs else acc
def byRankD (s : Sh) (nm : Str) : KI := s.lns.foldl (brLn nm) []
theorem brGo_nd : ∀ {ps : List Pc} {acc : KI}, (acc.map (·.1)).Nodup → ((brGo acc ps).map (·.1)).Nodup
  | [], _, h => h
  | p :: ps, acc, h => brGo_nd (ps := ps) (mergeI_nd h)
theorem brLn_nd {nm : Str} : ∀ {ls : List Ln} {acc : KI}, (acc.map (·.1)).Nodup → ((ls.foldl (brLn nm) acc).map (·.1)).Nodup
  | [], _, h => h
  | l :: ls, acc, h => by
    rw [List.foldl_cons]
    refine brLn_nd (ls := ls) ?_
    unfold brLn
    split
    · exact brGo_nd h
    · exact h
theorem cov_pRn {p : Pc} {j : Int} : cvR j (pRn p) = coversB p (j, 1) := by rw [cov_int]; rfl
theorem valR_one {p : Pc} {j : Int} : valR [pRn p] j = if coversB p (j, 1) = true then some p.n else none := by
  unfold valR
  rw [List.reverse_singleton, List.find?_cons, cov_pRn]
  cases coversB p (j, 1) <;> rfl
theorem brGo_val {j : Int} : ∀ {ps : List Pc} {acc : KI}, valI (brGo acc ps) j = ((ps.reverse.find? fun p => coversB p (j, 1)).map Pc.n).or (valI acc j)
  | [], _ => rfl
  | p :: ps, acc => by
    show valI (brGo (mergeI acc (stepsD [pRn p])) ps) j = _
    rw [brGo_val, valI_merge stepsD_nd, stepsD_val, valR_one, List.reverse_cons, List.find?_append]
    cases ps.reverse.find? (fun p => coversB p (j, 1)) with
    | some x => rfl
    | none =>
      rw [List.find?_cons]
      cases coversB p (j, 1) <;> rfl
theorem brLn_skip {nm : Str} : ∀ {ls : List Ln} {acc : KI}, (∀ l ∈ ls, l.name ≠ nm) → ls.foldl (brLn nm) acc = acc
  | [], _, _ => rfl
  | l :: ls, acc, h => by
    rw [List.foldl_cons]
    unfold brLn
    rw [if_neg (h l (by simp))]
    exact brLn_skip (ls := ls) fun x hx => h x (by simp [hx])
theorem brLn_val {nm : Str} {j : Int} {l : Ln} : ∀ {ls : List Ln} {acc : KI}, (ls.map Ln.name).Nodup → l ∈ ls → l.name = nm → valI (ls.foldl (brLn nm) acc) j = (hiI l j).or (valI acc j)
  | [], _, _, h, _ => by simp at h
  | x :: ls, acc, hn, h, he => by
    rw [List.map_cons, List.nodup_cons] at hn
    rw [List.foldl_cons]
    rcases List.mem_cons.mp h with rfl | h
    · rw [brLn_skip fun y hy e => hn.1 (by rw [he, ← e]; exact List.mem_map.mpr ⟨y, hy, rfl⟩)]
      unfold brLn
      rw [if_pos he, brGo_val]
      rfl
    · have : x.name ≠ nm := fun e => hn.1 (by rw [e, ← he]; exact List.mem_map.mpr ⟨l, h, rfl⟩)
      unfold brLn
      rw [if_neg this]
      exact brLn_val hn.2 h he
theorem byRank_same {s : Sh} {l : Ln} (hs : GSh s) (h : l ∈ s.lns) : SameD (stepsD (runsF l)) (byRankD s l.name) := by
  refine same_of stepsD_nd (brLn_nd (by simp)) fun j => ?_
  unfold byRankD
  rw [stepsD_val, runs_val (fun p hp => by have := ((hs.lns l h).pc p hp).m1; omega), brLn_val hs.lnn h rfl]
  cases hiI l j <;> rfl
/-! ### finding what is there once -/
theorem find_nd {α β : Type} [DecidableEq β] {f : α → β} : ∀ {xs : List α} {a : α}, (xs.map f).Nodup → a ∈ xs → xs.find? (fun x => decide (f x = f a)) = some a
  | [], _, _, h => by simp at h
  | x :: xs, a, hn, h => by
    rw [List.map_cons, List.nodup_cons] at hn
    rw [List.find?_cons]
    rcases List.mem_cons.mp h with rfl | h
    · rw [decide_eq_true rfl]
    · rw [decide_eq_false (fun e => hn.1 (by rw [e]; exact List.mem_map.mpr ⟨a, h, rfl⟩))]
      exact find_nd hn.2 h
theorem lnBy_of {s : Sh} {l : Ln} (hn : (s.lns.map Ln.name).Nodup) (h : l ∈ s.lns) : lnBy s l.name = some l := find_nd hn h
theorem perm_ix {α β : Type} {f : α → List β} : ∀ {xs : List α} {i : Nat} {a : α} (b : α), xs[i]? = some a → ((xs.set i b).flatMap f).Perm (f b ++ (xs.eraseIdx i).flatMap f)
  | [], _, _, _, h => by simp at h
  | x :: xs, 0, a, b, h => by
    show (f b ++ xs.flatMap f).Perm _
    exact List.Perm.refl _
  | x :: xs, i + 1, a, b, h => by
    have ih := perm_ix (f := f) (xs := xs) (i := i) b (by simpa using h)
    show (f x ++ (xs.set i b).flatMap f).Perm (f b ++ (f x ++ (xs.eraseIdx i).flatMap f))
    refine (ih.append_left (f x)).trans ?_
    rw [← List.append_assoc, ← List.append_assoc]
    exact List.Perm.append_right _ List.perm_append_comm
theorem set_self {α : Type} : ∀ {xs : List α} {i : Nat} {a : α}, xs[i]? = some a → xs.set i a = xs
  | [], _, _, h => by simp at h
  | x :: xs, 0, a, h => by
    have e : x = a := by simpa using h
    rw [e]
    rfl
  | x :: xs, i + 1, a, h => by
    show x :: xs.set i a = _
    rw [set_self (by simpa using h)]
theorem perm_at {α β : Type} {f : α → List β} {xs : List α} {i : Nat} {a : α} (h : xs[i]? = some a) : (xs.flatMap f).Perm (f a ++ (xs.eraseIdx i).flatMap f) := by
  have := perm_ix (f := f) a h
  rwa [set_self h] at this
/-- the piece p of number n at rank r of the lane l, the i-th -/
structure Sat (s : Sh) (n : Int) (i : Nat) (l : Ln) (r : Nat) (p : Pc) : Prop where
  hl : s.lns[i]? = some l
  hp : l.pcs[r]? = some p
  hn : p.n = n
section
variable {s : Sh} {n : Int} {i r : Nat} {l : Ln} {p : Pc}
theorem Sat.lm (h : Sat s n i l r p) : l ∈ s.lns := List.mem_of_getElem? h.hl
theorem Sat.pm (h : Sat s n i l r p) : p ∈ l.pcs := List.mem_of_getElem? h.hp
theorem Sat.am (h : Sat s n i l r p) : p ∈ s.all := List.mem_flatMap.mpr ⟨l, h.lm, h.pm⟩
theorem all_gpc (hs : GSh s) : ∀ q ∈ s.all, GPc q := fun q hq => by
  obtain ⟨l, h1, h2⟩ := List.mem_flatMap.mp hq
  exact (hs.lns l h1).pc q h2
theorem Sat.gp (h : Sat s n i l r p) (hs : GSh s) : GPc p := all_gpc hs p h.am
theorem Sat.n1 (h : Sat s n i l r p) (hs : GSh s) : 1 ≤ n ∧ n ≤ 99999 := by rw [← h.hn]; exact ⟨(h.gp hs).n1, (h.gp hs).n2⟩
theorem Sat.pcBy (h : Sat s n i l r p) (hs : GSh s) : pcBy s n = some p := by
  have := find_nd (f := Pc.n) hs.nn h.am
  rw [h.hn] at this
  exact this
theorem lane_once (hs : GSh s) {i j : Nat} {l l' : Ln} (h : s.lns[i]? = some l) (h' : s.lns[j]? = some l') {q q' : Pc} (hq : q ∈ l.pcs) (hq' : q' ∈ l'.pcs) (e : q.n = q'.n) : i = j := by
  by_cases hij : i = j
  · exact hij
  exfalso
  have hp := ((perm_at (f := Ln.pcs) h).map Pc.n).nodup_iff.mp hs.nn
  rw [List.map_append, List.nodup_append] at hp
  refine hp.2.2 q.n (List.mem_map.mpr ⟨q, hq, rfl⟩) q'.n (List.mem_map.mpr ⟨q', ?_, rfl⟩) e
  refine List.mem_flatMap.mpr ⟨l', ?_, hq'⟩
  rw [List.mem_eraseIdx_iff_getElem?]
  exact ⟨j, fun z => hij z.symm, h'⟩
theorem pcs_nd (hs : GSh s) (h : l ∈ s.lns) : (l.pcs.map Pc.n).Nodup := by
  obtain ⟨i, hi⟩ := List.mem_iff_getElem?.mp h
  have hp := ((perm_at (f := Ln.pcs) hi).map Pc.n).nodup_iff.mp hs.nn
  rw [List.map_append, List.nodup_append] at hp
  exact hp.1
theorem Sat.lnOf (h : Sat s n i l r p) (hs : GSh s) : lnOf s n = some l := by
  cases e : BL.lnOf s n with
  | none =>
    unfold BL.lnOf at e
    have := List.find?_eq_none.mp e l h.lm
    exact absurd (decide_eq_true (List.mem_map.mpr ⟨p, h.pm, h.hn⟩)) this
  | some l' =>
    unfold BL.lnOf at e
    have h1 := List.find?_some e
    have h2 := List.mem_of_find?_eq_some e
    obtain ⟨q, hq, hqn⟩ := List.mem_map.mp (of_decide_eq_true h1)
    obtain ⟨j, hj⟩ := List.mem_iff_getElem?.mp h2
    have := lane_once hs h.hl hj h.pm hq (by rw [h.hn, hqn])
    subst this
    rw [h.hl] at hj
    exact hj.symm
theorem Sat.pcs (h : Sat s n i l r p) : l.pcs = l.pcs.take r ++ p :: l.pcs.drop (r + 1) := by
  have hr : r < l.pcs.length := (List.getElem?_eq_some_iff.mp h.hp).1
  have e : l.pcs[r] = p := (List.getElem?_eq_some_iff.mp h.hp).2
  rw [← e, List.getElem_cons_drop, List.take_append_drop]
theorem Sat.else_ (h : Sat s n i l r p) (hs : GSh s) : (∀ q ∈ l.pcs.take r, q.n ≠ n) ∧ ∀ q ∈ l.pcs.drop (r + 1), q.n ≠ n := by
  have nd := pcs_nd hs h.lm
  rw [h.pcs, List.map_append, List.map_cons, List.nodup_append, List.nodup_cons] at nd
  rw [← h.hn]
  exact ⟨fun q hq e => nd.2.2 q.n (List.mem_map.mpr ⟨q, hq, rfl⟩) p.n (by simp) e, fun q hq e => nd.2.1.1 (by rw [← e]; exact List.mem_map.mpr ⟨q, hq, rfl⟩)⟩
def ers (l : Ln) (r : Nat) : List Pc := l.pcs.take r ++ l.pcs.drop (r + 1)
theorem Sat.oth (h : Sat s n i l r p) (hs : GSh s) : othF l n = ers l r := by
  obtain ⟨h1, h2⟩ := h.else_ hs
  unfold othF ers
  conv => lhs; rw [h.pcs]
  rw [List.filter_append, List.filter_cons_of_neg (by simp [h.hn]), List.filter_eq_self.mpr fun q hq => by simp [h1 q hq], List.filter_eq_self.mpr fun q hq => by simp [h2 q hq]]
theorem Sat.ne_oth (h : Sat s n i l r p) (hs : GSh s) : ∀ q ∈ ers l r, q.n ≠ n := fun q hq => by
  obtain ⟨h1, h2⟩ := h.else_ hs
  rcases List.mem_append.mp hq with hq | hq
  · exact h1 q hq
  · exact h2 q hq
theorem Sat.perm (h : Sat s n i l r p) : l.pcs.Perm (p :: ers l r) := by
  conv => lhs; rw [h.pcs]
  exact List.perm_middle
theorem Sat.elen (h : Sat s n i l r p) : (ers l r).length + 1 = l.pcs.length := by have := h.perm.length_eq; rw [List.length_cons] at this; omega
def ins (xs : List Pc) (k : Nat) (p : Pc) : List Pc := xs.take k ++ [p] ++ xs.drop k
theorem ins_perm {xs : List Pc} {k : Nat} {p : Pc} : (ins xs k p).Perm (p :: xs) := by
  unfold ins
  rw [List.append_assoc]
  refine List.perm_middle.trans ?_
  show (p :: (xs.take k ++ xs.drop k)).Perm _
  rw [List.take_append_drop]
theorem ins_back (h : Sat s n i l r p) : ins (ers l r) r p = l.pcs := by
  have hr : r < l.pcs.length := (List.getElem?_eq_some_iff.mp h.hp).1
  unfold ins ers
  have e : (l.pcs.take r).length = r := by rw [List.length_take]; omega
  rw [List.take_append_of_le_length (by omega), List.drop_append_of_le_length (by omega), List.take_of_length_le (by omega), List.drop_eq_nil_of_le (by omega), List.nil_append]
  rw [List.append_assoc]
  exact h.pcs.symm
theorem ins_at {xs : List Pc} {k : Nat} {p : Pc} (hk : k ≤ xs.length) : (ins xs k p)[k]? = some p ∧ (ins xs k p).take k ++ (ins xs k p).drop (k + 1) = xs := by
  have e : (xs.take k).length = k := by rw [List.length_take]; omega
  unfold ins
  rw [List.append_assoc]
  refine ⟨?_, ?_⟩
  · rw [List.getElem?_append_right (by omega), e, Nat.sub_self]
    rfl
  · rw [List.take_append_of_le_length (by omega), List.take_of_length_le (by omega), List.drop_append, e, List.drop_eq_nil_of_le (by omega), show k + 1 - k = 1 by omega]
    show xs.take k ++ ([] ++ xs.drop k) = xs
    rw [List.nil_append, List.take_append_drop]
/-! ### one lane put otherwise -/
def upS (s : Sh) (i : Nat) (l : Ln) : Sh := { s with lns := s.lns.set i l }
theorem setLn_at (hn : (s.lns.map Ln.name).Nodup) (h : s.lns[i]? = some l) {l1 : Ln} (e : l1.name = l.name) : s.setLn l1 = upS s i l1 := by
  unfold Sh.setLn upS
  congr 1
  have hi : i < s.lns.length := (List.getElem?_eq_some_iff.mp h).1
  refine List.ext_getElem? fun j => ?_
  rw [List.getElem?_map]
  by_cases hj : i = j
  · subst hj
    rw [h, List.getElem?_set_self hi]
    show some (if l.name = l1.name then l1 else l) = _
    rw [if_pos e.symm]
  · rw [List.getElem?_set_ne hj]
    cases q : s.lns[j]? with
    | none => rfl
    | some o =>
      show some (if o.name = l1.name then l1 else o) = _
      rw [if_neg fun z => ?_]
      have a1 : (s.lns.map Ln.name)[i]? = some l.name := by rw [List.getElem?_map, h]; rfl
      have a2 : (s.lns.map Ln.name)[j]? = some l.name := by rw [List.getElem?_map, q, ← e, ← z]; rfl
      exact hj (nd_ix hn a1 a2)
theorem setLn_ps (hn : (s.lns.map Ln.name).Nodup) (h : s.lns[i]? = some l) (ps : List Pc) : s.setLn (l.setPcs ps) = upS s i (l.setPcs ps) := setLn_at hn h rfl
theorem upS_names (h : s.lns[i]? = some l) {l1 : Ln} (e : l1.name = l.name) : (upS s i l1).lns.map Ln.name = s.lns.map Ln.name := by
  unfold upS
  rw [List.map_set, e]
  exact set_self (by rw [List.getElem?_map, h]; rfl)
theorem upS_all (h : s.lns[i]? = some l) {l1 : Ln} : (upS s i l1).all.Perm (l1.pcs ++ (s.lns.eraseIdx i).flatMap Ln.pcs) := perm_ix l1 h
/-- a lane alike but for its pieces -/
structure Alike (l l1 : Ln) : Prop where
  nm : l1.name = l.name
  g : l1.gain = l.gain
  s : l1.silent = l.silent
theorem alike_set {ps : List Pc} : Alike l (l.setPcs ps) := ⟨rfl, rfl, rfl⟩
structure Like (s s' : Sh) : Prop where
  tm : s'.tm = s.tm
  tks : s'.tks = s.tks
  nms : s'.lns.map Ln.name = s.lns.map Ln.name
  lns : ∀ l ∈ s'.lns, ∃ l0 ∈ s.lns, Alike l0 l
theorem like_up (h : s.lns[i]? = some l) {l1 : Ln} (a : Alike l l1) : Like s (upS s i l1) := ⟨rfl, rfl, upS_names h a.nm, fun x hx => by
  rcases List.mem_or_eq_of_mem_set hx with hx | rfl
  · exact ⟨x, hx, rfl, rfl, rfl⟩
  · exact ⟨l, List.mem_of_getElem? h, a⟩⟩
theorem Like.trans {s s1 s2 : Sh} (a : Like s s1) (b : Like s1 s2) : Like s s2 := ⟨b.tm.trans a.tm, b.tks.trans a.tks, b.nms.trans a.nms, fun x hx => by
  obtain ⟨y, hy, e⟩ := b.lns x hx
  obtain ⟨z, hz, e2⟩ := a.lns y hy
  exact ⟨z, hz, e.nm.trans e2.nm, e.g.trans e2.g, e.s.trans e2.s⟩⟩
theorem Like.good {s s' : Sh} (k : Like s s') (hs : GSh s) (hp : s'.all.Perm s.all) : GSh s' := by
  have hlen : s'.lns.length = s.lns.length := by have := congrArg List.length k.nms; simpa using this
  refine ⟨by rw [k.tm]; exact hs.tm, by rw [k.tks]; exact hs.tk1, by rw [k.tks]; exact hs.tk2, by rw [k.tks]; exact hs.tks, by rw [k.tks]; exact hs.tkn, by rw [hlen]; exact hs.l1, by rw [hlen]; exact hs.l2, fun l hl => ?_, by rw [k.nms]; exact hs.lnn, by rw [hp.length_eq]; exact hs.all, (hp.map Pc.n).nodup_iff.mpr hs.nn, fun p hpm => by rw [k.tks]; exact hs.tkd p (hp.mem_iff.mp hpm)⟩
  obtain ⟨l0, h0, e⟩ := k.lns l hl
  have g := hs.lns l0 h0
  exact ⟨by rw [e.nm]; exact g.nm, by rw [e.g]; exact g.g, by rw [e.g]; exact g.g0, by rw [e.s]; exact g.s, fun p hpm => all_gpc hs p (hp.mem_iff.mp (List.mem_flatMap.mpr ⟨l, hl, hpm⟩))⟩
theorem upS_at (h : s.lns[i]? = some l) {l1 : Ln} : (upS s i l1).lns[i]? = some l1 := List.getElem?_set_self (List.getElem?_eq_some_iff.mp h).1
theorem upS_up {l1 l2 : Ln} : upS (upS s i l1) i l2 = upS s i l2 := by unfold upS; simp only [List.set_set]
theorem upS_self (h : s.lns[i]? = some l) : upS s i l = s := by unfold upS; rw [set_self h]
theorem setPcs_set {ps qs : List Pc} : (l.setPcs ps).setPcs qs = l.setPcs qs := rfl
theorem setPcs_self : l.setPcs l.pcs = l := rfl
/-! ### raised -/
def raiS (s : Sh) (i : Nat) (l : Ln) (r : Nat) (p : Pc) (k : Nat) : Sh := upS s i (l.setPcs (ins (ers l r) k p))
theorem raise_good (h : Sat s n i l r p) (hs : GSh s) {k : Nat} (hk : k ≤ (ers l r).length) : GSh (raiS s i l r p k) ∧ Sat (raiS s i l r p k) n i (l.setPcs (ins (ers l r) k p)) k p := by
  refine ⟨(like_up h.hl alike_set).good hs ((upS_all h.hl).trans ?_), upS_at h.hl, (ins_at hk).1, h.hn⟩
  refine List.Perm.trans ?_ (perm_at (f := Ln.pcs) h.hl).symm
  exact (ins_perm.trans h.perm.symm).append_right _
theorem raise_R (h : Sat s n i l r p) (hs : GSh s) {k : Nat} (hk : k ≤ (ers l r).length) : R_raise_to [s.d, .int n, .int (k : Int)] (raiS s i l r p k).d := by
  obtain ⟨n1, n2⟩ := h.n1 hs
  have q := R_raise_to.mk (r := k) hs n1 n2 (h.pcBy hs) (h.lnOf hs) (lnBy_of hs.lnn h.lm) (by rw [h.oth hs]; exact hk)
  rw [h.oth hs, setLn_ps hs.lnn h.hl] at q
  exact q
theorem raise_back (h : Sat s n i l r p) {k : Nat} (hk : k ≤ (ers l r).length) : raiS (raiS s i l r p k) i (l.setPcs (ins (ers l r) k p)) k p r = s := by
  unfold raiS
  rw [upS_up]
  have e : ers (l.setPcs (ins (ers l r) k p)) k = ers l r := (ins_at hk).2
  rw [e, setPcs_set, ins_back h, setPcs_self, upS_self h.hl]
theorem Sat.rle (h : Sat s n i l r p) : r ≤ (ers l r).length := by have := h.elen; have := (List.getElem?_eq_some_iff.mp h.hp).1; omega
theorem ers_ins {k : Nat} (hk : k ≤ (ers l r).length) : ers (l.setPcs (ins (ers l r) k p)) k = ers l r := (ins_at hk).2
/-! ### shifted -/
def remS (s : Sh) (i : Nat) (l : Ln) (r : Nat) : Sh := upS s i (l.setPcs (ers l r))
def shiS (s : Sh) (i : Nat) (l : Ln) (r : Nat) (p : Pc) (k : Nat) (l3 : Ln) : Sh := upS (remS s i l r) k (l3.setPcs (l3.pcs ++ [p]))
theorem shift_good (h : Sat s n i l r p) (hs : GSh s) {k : Nat} {l3 : Ln} (h3 : (remS s i l r).lns[k]? = some l3) : GSh (shiS s i l r p k l3) ∧ Sat (shiS s i l r p k l3) n k (l3.setPcs (l3.pcs ++ [p])) l3.pcs.length p := by
  refine ⟨((like_up h.hl alike_set).trans (like_up h3 alike_set)).good hs ((upS_all h3).trans ?_), upS_at h3, by show (l3.pcs ++ [p])[l3.pcs.length]? = _; rw [List.getElem?_append_right (Nat.le_refl _), Nat.sub_self]; rfl, h.hn⟩
  have e1 : (l3.pcs ++ [p] ++ ((remS s i l r).lns.eraseIdx k).flatMap Ln.pcs).Perm (p :: (remS s i l r).all) := by
    refine List.Perm.trans ?_ ((perm_at (f := Ln.pcs) h3).symm.cons p)
    rw [List.append_assoc]
    exact List.perm_middle
  refine e1.trans ?_
  refine List.Perm.trans ((upS_all h.hl).cons p) ?_
  refine List.Perm.trans ?_ (perm_at (f := Ln.pcs) h.hl).symm
  exact h.perm.symm.append_right _
theorem shi_names (h : Sat s n i l r p) {k : Nat} {l3 : Ln} (h3 : (remS s i l r).lns[k]? = some l3) : (shiS s i l r p k l3).lns.map Ln.name = s.lns.map Ln.name := (upS_names (l1 := l3.setPcs (l3.pcs ++ [p])) h3 rfl).trans (upS_names (l1 := l.setPcs (ers l r)) h.hl rfl)
theorem shift_R (h : Sat s n i l r p) (hs : GSh s) {k : Nat} {l3 : Ln} (h3 : (remS s i l r).lns[k]? = some l3) : R_shift [s.d, .int n, .str l3.name] (shiS s i l r p k l3).d := by
  obtain ⟨n1, n2⟩ := h.n1 hs
  have nm : (remS s i l r).lns.map Ln.name = s.lns.map Ln.name := upS_names h.hl rfl
  have nd : ((remS s i l r).lns.map Ln.name).Nodup := by rw [nm]; exact hs.lnn
  have e1 : s.setLn (l.setPcs (othF l n)) = remS s i l r := by rw [h.oth hs, setLn_ps hs.lnn h.hl]; rfl
  obtain ⟨l2, hl2, e2⟩ : ∃ l2, l2 ∈ s.lns ∧ l2.name = l3.name := by
    have : l3.name ∈ s.lns.map Ln.name := by rw [← nm]; exact List.mem_map.mpr ⟨l3, List.mem_of_getElem? h3, rfl⟩
    exact List.mem_map.mp this
  have hb : lnBy s l3.name = some l2 := by rw [← e2]; exact lnBy_of hs.lnn hl2
  have hlen : l3.pcs.length ≤ 60 := by
    have g := (shift_good h hs h3).1.all
    have : (l3.pcs ++ [p]).length ≤ (shiS s i l r p k l3).all.length := by
      have := (perm_at (f := Ln.pcs) (shift_good h hs h3).2.hl).length_eq
      show (l3.pcs ++ [p]).length ≤ ((shiS s i l r p k l3).lns.flatMap Ln.pcs).length
      rw [this, List.length_append (as := (l3.setPcs (l3.pcs ++ [p])).pcs)]
      exact Nat.le_add_right (l3.pcs ++ [p]).length _
    rw [List.length_append] at this
    omega
  have q := R_shift.mk hs n1 n2 (h.pcBy hs) hb (h.lnOf hs) (lnBy_of hs.lnn h.lm) (by rw [e1]; exact lnBy_of nd (List.mem_of_getElem? h3)) hlen
  rw [e1, setLn_ps nd h3] at q
  exact q
/-- there and back: it stands on its lane's top -/
theorem shift_back (h : Sat s n i l r p) {k : Nat} {l3 : Ln} (h3 : (remS s i l r).lns[k]? = some l3) :
    (remS (shiS s i l r p k l3) k (l3.setPcs (l3.pcs ++ [p])) l3.pcs.length).lns[i]? = some (l.setPcs (ers l r)) ∧ shiS (shiS s i l r p k l3) k (l3.setPcs (l3.pcs ++ [p])) l3.pcs.length p i (l.setPcs (ers l r)) = raiS s i l r p (ers l r).length := by
  have e0 : ers (l3.setPcs (l3.pcs ++ [p])) l3.pcs.length = l3.pcs := by
    show (l3.pcs ++ [p]).take l3.pcs.length ++ (l3.pcs ++ [p]).drop (l3.pcs.length + 1) = _
    rw [List.take_append_of_le_length (Nat.le_refl _), List.take_of_length_le (Nat.le_refl _), List.drop_eq_nil_of_le (by simp), List.append_nil]
  have e1 : remS (shiS s i l r p k l3) k (l3.setPcs (l3.pcs ++ [p])) l3.pcs.length = remS s i l r := by
    unfold remS shiS
    rw [upS_up, e0, setPcs_set, setPcs_self]
    exact upS_self h3
  refine ⟨by rw [e1]; exact upS_at h.hl, ?_⟩
  show upS (remS (shiS s i l r p k l3) k _ _) i _ = _
  rw [e1]
  unfold remS raiS
  rw [upS_up, setPcs_set]
  congr 2
  show ers l r ++ [p] = ins (ers l r) (ers l r).length p
  unfold ins
  rw [List.take_of_length_le (Nat.le_refl _), List.drop_eq_nil_of_le (Nat.le_refl _), List.append_nil]
/-! ### what is heard -/
theorem hi_top {ps : List Pc} {x : Fr} (hv : coversB p x = true) : hiF (l.setPcs (ps ++ [p])) x = some p := by
  unfold hiF
  show (ps ++ [p]).reverse.find? _ = _
  rw [List.reverse_append, List.reverse_singleton, List.singleton_append, List.find?_cons, hv]
theorem ins_top {ps : List Pc} : ins ps ps.length p = ps ++ [p] := by
  unfold ins
  rw [List.take_of_length_le (Nat.le_refl _), List.drop_eq_nil_of_le (Nat.le_refl _), List.append_nil]
theorem hi_low {ps : List Pc} {x : Fr} (hv : coversB p x = true) : hiF (l.setPcs (ins ps 0 p)) x = some ((ps.reverse.find? fun q => coversB q x).getD p) := by
  unfold hiF ins
  show ((ps.take 0 ++ [p] ++ ps.drop 0).reverse).find? _ = _
  rw [List.take_zero, List.drop_zero, List.nil_append, List.singleton_append, List.reverse_cons, List.find?_append]
  cases ps.reverse.find? (fun q => coversB q x) with
  | some q => rfl
  | none =>
    rw [List.find?_cons, hv]
    rfl
def covRn (q : Pc) : Rn := (q.at_, q.at_ + q.many, 1)
theorem covered_iff {ps : List Pc} {j : Int} : (valI (stepsD (ps.map covRn)) j).isSome = (ps.reverse.find? fun q => coversB q (j, 1)).isSome := by
  rw [stepsD_val]
  unfold valR
  rw [← List.map_reverse, List.find?_map, Option.isSome_map, Option.isSome_map]
  congr 2
  funext q
  show cvR j (covRn q) = coversB q (j, 1)
  rw [cov_int]
  rfl
theorem low_left (h : Sat s n i l r p) (hs : GSh s) {j : Int} (hv : coversB p (j, 1) = true) : ∃ v, hiI (l.setPcs (ins (ers l r) 0 p)) j = some v ∧ decide (v = n) = !(valI (stepsD ((ers l r).map covRn)) j).isSome := by
  unfold hiI
  rw [hi_low hv, covered_iff]
  cases e : (ers l r).reverse.find? fun q => coversB q (j, 1) with
  | none => exact ⟨p.n, rfl, by rw [h.hn]; simp⟩
  | some q =>
    refine ⟨q.n, rfl, ?_⟩
    have hq : q ∈ ers l r := by have := List.mem_of_find?_eq_some e; simpa using this
    have := h.ne_oth hs q hq
    simp [this]
end
end BL
set_option maxHeartbeats 4000000
/-! defs of the law: fractions, draws -/
namespace BL
open PySem PySem.Spec PyProof.Rows L2 Evl
inductive R__law_low : List Dt → Dt → Prop where
  | mk {t b : Int} {n : Nat} (h0 : 0 < b) (hb : Bt n b) (hn : n ≤ 8000) : R__law_low [.int t, .int b] (frp (lowF t b))
inductive R__law_sub : List Dt → Dt → Prop where
  | mk {a b c e : Int} {m n : Nat} (h1 : FB m a b) (h2 : FB n c e) (h : m + n ≤ 8000) : R__law_sub [fr a b, fr c e] (frp (minusF (a, b) (c, e)))
inductive R__law_mul : List Dt → Dt → Prop where
  | mk {a b c e : Int} {m n : Nat} (h1 : FB m a b) (h2 : FB n c e) (h : m + n ≤ 8000) : R__law_mul [fr a b, fr c e] (frp (timesF (a, b) (c, e)))
inductive R__law_div : List Dt → Dt → Prop where
  | mk {a b c e : Int} {m n : Nat} (h1 : FB m a b) (h2 : FB n c e) (hc : 0 < c) (h : m + n ≤ 8000) : R__law_div [fr a b, fr c e] (frp (overF (a, b) (c, e)))
inductive R__law_goes_on : List Dt → Dt → Prop where
  | mk {a b : Sg} (h : GSg a) (k : GSg b) : R__law_goes_on [a.d, b.d] (.bl (goOnB a b))
section
variable {W : Wo} {T : Tb}
theorem c__law_low (Z : En W) (A : At W "_law_low" s__law_low)  : Cal W T 1 "_law_low" P__law_low R__law_low :=
  cal_of A sc__law_low bn__law_low fun f cdv Ar outer s H E ds d hr g hl => by
    cases g with | @mk a b n h0 hb hn =>
    refine ws_cons (w1_par (i := 2) (j := 3) (wa_p (ad_cons (ed_b (bd_abs Z.n_abs) (by rfl) (ad_cons (ev 0) ad_nil)) (ad_cons (ed_b (bd_abs Z.n_abs) (by rfl) (ad_cons (ev 1) ad_nil)) ad_nil)) ⟨_, _, rfl, ?_⟩) rfl (by exact sc__law_low.nd) rfl rfl (by decide) rfl rfl (by rfl))
    have e1 : ∀ x : Int, (if x < 0 then -x else x) = (x.natAbs : Int) := fun x => by split <;> omega
    refine ws_cons (w1_while PassesOwn.never (fun n ρ' M' => ∃ x y : Int, ρ' = [some (.int a), some (.int b), some (.int x), some (.int y)] ∧ 0 ≤ x ∧ 0 ≤ y ∧ n = y.toNat ∧ gcdI x y = gcdI a b) _ ⟨_, _, rfl, ?_, ?_, rfl, ?_⟩ ?_)
    · rw [e1]; omega
    · rw [e1]; omega
    · rw [e1, e1]; unfold gcdI; rw [Int.gcd_natCast_natCast]; rfl
    · rintro n ρ' M' ⟨x, y, rfl, hx, hy, rfl, hg⟩
      refine wt_p (td_k kd_gt (ev 3) ed_int) ?_
      by_cases h : 0 < y
      · rw [if_pos (decide_eq_true h)]
        refine ws_one (w1_par (i := 2) (j := 3) (wa_p (ad_cons (ev 3) (ad_cons (ed_mod (ev 2) (ev 3) h) ad_nil)) ⟨_, _, rfl, ?_⟩) rfl sc__law_low.nd rfl rfl (by decide) rfl rfl (by rfl))
        have m0 := Int.emod_nonneg x (show y ≠ 0 by omega)
        have m1 := Int.emod_lt_of_pos x h
        exact ⟨(x % y).toNat, by omega, y, x % y, rfl, hy, m0, rfl, by rw [← gcd_step]; exact hg⟩
      · rw [if_neg (by simpa using h)]
        have y0 : y = 0 := by omega
        subst y0
        have e : gcdI x 0 = x := by unfold gcdI; rw [Int.gcd_zero]; omega
        rw [e] at hg
        subst hg
        have hgp : 0 < gcdI a b := gcdI_pos h0
        have hgb : Bt _ (gcdI a b) := hb.of_le (by omega) (Int.le_of_dvd h0 (gcdI_dvd_r a b))
        refine ws_cons (w1_ifF (TD.is (td_k kd_lt (ev 1) ed_int) (decide_eq_false (by omega))) (ws_nil ?_))
        refine ws_one (w1_retp (ed_tup (ad_cons (ed_fdiv (ev 0) (ev 2) hgp hgb) (ad_cons (ed_fdiv (ev 1) (ev 2) hgp hgb) ad_nil))) rfl)
theorem c__law_sub (Z : En W) (A : At W "_law_sub" s__law_sub) (C__law_low : Cal W T 1 "_law_low" P__law_low R__law_low) : Cal W T 2 "_law_sub" P__law_sub R__law_sub :=
  cal_of A sc__law_sub bn__law_sub fun f cdv Ar outer s H E ds d hr g hl => by
    cases g with | mk h1 h2 h =>
    refine ws_one (w1_retp (ed_call C__law_low (hr.mono (by decide)) (by rfl) (ad_cons (ed_sub (ed_mul (ed_ixT (ev 0) ed_int rfl) (ed_ixT (ev 1) ed_int rfl) h1.tp h2.bt) (ed_mul (ed_ixT (ev 1) ed_int rfl) (ed_ixT (ev 0) ed_int rfl) h2.tp h1.bt)) (ad_cons (ed_mul (ed_ixT (ev 0) ed_int rfl) (ed_ixT (ev 1) ed_int rfl) h1.bt h2.bt) ad_nil)) (.mk (Int.mul_pos h1.ps h2.ps) (h1.bt.mul h2.bt) h)) rfl)
theorem c__law_mul (Z : En W) (A : At W "_law_mul" s__law_mul) (C__law_low : Cal W T 1 "_law_low" P__law_low R__law_low) : Cal W T 2 "_law_mul" P__law_mul R__law_mul :=
  cal_of A sc__law_mul bn__law_mul fun f cdv Ar outer s H E ds d hr g hl => by
    cases g with | mk h1 h2 h =>
    refine ws_one (w1_retp (ed_call C__law_low (hr.mono (by decide)) (by rfl) (ad_cons (ed_mul (ed_ixT (ev 0) ed_int rfl) (ed_ixT (ev 1) ed_int rfl) h1.tp h2.tp) (ad_cons (ed_mul (ed_ixT (ev 0) ed_int rfl) (ed_ixT (ev 1) ed_int rfl) h1.bt h2.bt) ad_nil)) (.mk (Int.mul_pos h1.ps h2.ps) (h1.bt.mul h2.bt) h)) rfl)
theorem c__law_div (Z : En W) (A : At W "_law_div" s__law_div) (C__law_low : Cal W T 1 "_law_low" P__law_low R__law_low) : Cal W T 2 "_law_div" P__law_div R__law_div :=
  cal_of A sc__law_div bn__law_div fun f cdv Ar outer s H E ds d hr g hl => by
    cases g with | mk h1 h2 hc h =>
    refine ws_one (w1_retp (ed_call C__law_low (hr.mono (by decide)) (by rfl) (ad_cons (ed_mul (ed_ixT (ev 0) ed_int rfl) (ed_ixT (ev 1) ed_int rfl) h1.tp h2.bt) (ad_cons (ed_mul (ed_ixT (ev 0) ed_int rfl) (ed_ixT (ev 1) ed_int rfl) h1.bt h2.tp) ad_nil)) (.mk (Int.mul_pos h1.ps hc) (h1.bt.mul h2.tp) h)) rfl)
theorem c__law_goes_on (Z : En W) (A : At W "_law_goes_on" s__law_goes_on) (C__law_mul : Cal W T 2 "_law_mul" P__law_mul R__law_mul) (C__law_sub : Cal W T 2 "_law_sub" P__law_sub R__law_sub) : Cal W T 3 "_law_goes_on" P__law_goes_on R__law_goes_on :=
  cal_of A sc__law_goes_on bn__law_goes_on fun f cdv Ar outer s H E ds d hr g hl => by
    cases g with | @mk a b h k =>
    obtain ⟨a1, b1, c1⟩ := growF_ok h
    obtain ⟨a2, b2, c2⟩ := growF_ok k
    have i1 : FB 14 1 a.many := ⟨by show (1 : Int).natAbs < 2 ^ 14; decide, b1.tp, by have := h.m1; omega⟩
    have i2 : FB 14 1 b.many := ⟨by show (1 : Int).natAbs < 2 ^ 14; decide, b2.tp, by have := k.m1; omega⟩
    refine ws_cons (w1_setp (ix := 2) (ed_call C__law_mul (hr.mono (by decide)) (by rfl) (ad_cons (ed_call C__law_sub (hr.mono (by decide)) (by rfl) (ad_cons (ed_ixT (ev 0) ed_int rfl) (ad_cons (ed_ixT (ev 0) ed_int rfl) ad_nil)) (.mk h.l.fb h.f.fb (by decide))) (ad_cons (ed_tup (ad_cons ed_int (ad_cons (ed_ixT (ev 0) ed_int rfl) ad_nil))) ad_nil)) (.mk a1 i1 (by decide))) ?_ (by exact sc__law_goes_on.nd) (by rfl) (by first | exact .inl rfl | exact .inr rfl))
    refine ws_one (w1_retp (ED.is (ed_and (ed_eqD (ed_ixT (ev 0) ed_int rfl) (ed_ixT (ev 1) ed_int rfl) (by exact cln_fr) (by exact cln_fr) hr.units) fun hq => (ed_one (ed_eqD (ev 2) (ed_call C__law_mul (hr.mono (by decide)) (by rfl) (ad_cons (ed_call C__law_sub (hr.mono (by decide)) (by rfl) (ad_cons (ed_ixT (ev 1) ed_int rfl) (ad_cons (ed_ixT (ev 1) ed_int rfl) ad_nil)) (.mk k.l.fb k.f.fb (by decide))) (ad_cons (ed_tup (ad_cons ed_int (ad_cons (ed_ixT (ev 1) ed_int rfl) ad_nil))) ad_nil)) (.mk a2 i2 (by decide))) (by exact cln_fr) (by exact cln_fr) hr.units))) (by rw [eqD_fr, eqD_fr]; rfl)) rfl)
theorem low40 {v n : Int} (h : 0 ≤ v) (k : v < n) (q : n ≤ 2 ^ 40) : Bt 40 v := bt_of (by simp; omega) (by simp; omega)
theorem c__law_draw (Z : En W) (A : At W "_law_draw" s__law_draw)  : CalP W T 1 "_law_draw" P__law_draw G__law_draw :=
  calP_of A sc__law_draw bn__law_draw fun f cdv Ar outer s H E pn k0 ds Ψ hr g hl => by
    obtain ⟨n, rfl, h0, h40, hk, g⟩ := g
    refine ws_pen fun cells at_ dig hcl ha0 ha1 hd0 => ?_
    have mo : ∀ x : Int, 0 ≤ x % n ∧ x % n < n := fun x => ⟨Int.emod_nonneg _ (by omega), Int.emod_lt_of_pos _ h0⟩
    have hnb : Bt 40 n := bt_of (by simp; omega) (by simp; omega)
    refine ws_cons (w1_if (wt_view (n := 0) (ix := 0) rfl rfl (td_k kd_gt (ed_ixL (ev 0) ed_int rfl) ed_int) ?_))
    by_cases hd : 0 < dig
    · rw [if_pos (decide_eq_true hd)]
      refine ws_cons (w1_set (ix := 2) (we_view (n := 0) (ix := 0) rfl rfl (ed_mod (ed_ixL (ev 0) ed_int rfl) (ev 1) h0) rfl ?_) sc__law_draw.nd rfl (.inl rfl))
      refine ws_cons (w1_setix (n := 0) (we_view (n := 0) (ix := 0) rfl rfl (ed_fdiv (ed_ixL (ev 0) ed_int rfl) (ev 1) h0 hnb) rfl ⟨_, 2, rfl, ev 0, ed_int, rfl, ?_⟩))
      refine ws_one (w1_retp (ev 2) ⟨cells, at_, dig / n, k0, rfl, hcl, ha0, ha1, Int.ediv_nonneg hd0 (by omega), ?_⟩)
      exact ⟨_, _, rfl, g _ _ (mo dig).1 (mo dig).2 (by omega)⟩
    rw [if_neg (by simpa using hd)]
    refine ws_nil ?_
    have ha2 : at_ ≤ 1000000 := by unfold mostDraws at hk; omega
    refine ws_cons (w1_set (ix := 3) (we_view (n := 0) (ix := 0) rfl rfl (ed_ixL (ev 0) ed_int rfl) rfl ?_) sc__law_draw.nd rfl (.inl rfl))
    refine ws_cons (w1_setix (n := 0) (we_p (ed_add (ev 3) ed_int) ⟨_, 1, rfl, ev 0, ed_int, rfl, ?_⟩))
    refine ws_cons (w1_setp (ix := 4) ed_int ?_ sc__law_draw.nd rfl (.inl rfl))
    have fin : ∀ cell : Int, WS T (bX W "_law_draw" N__law_draw (defScope s__law_draw) f cdv Ar outer s H E) ((defBody s__law_draw).drop 5) [some (.adr pn), some (.int n), none, some (.int at_), some (.int cell), none] [(pn, penL cells (at_ + 1) dig)] { nx := fun _ _ => False, rt := fun d M' => ∃ cells' at' dig' k', M' = [(pn, penL cells' at' dig')] ∧ cells'.length ≤ 63 ∧ 0 ≤ at' ∧ at' ≤ (k' : Nat) ∧ 0 ≤ dig' ∧ ∃ n' rest, [(pn, MO.pen k')] = (pn, .pen n') :: rest ∧ Ψ d n' } := by
      intro cell
      have m1 := Int.emod_nonneg cell (show (2147483629 : Int) ≠ 0 by decide)
      have m2 := Int.emod_lt_of_pos cell (show (0 : Int) < 2147483629 by decide)
      refine ws_cons (w1_if (wt_view (n := 0) (ix := 0) rfl rfl (td_w (wd_and (td_k kd_lt (ev 3) (ed_b (bd_lenL Z.n_len) (by rfl) (ad_cons (ed_ixL (ev 0) ed_int rfl) ad_nil))) fun _ => wd_and1 (td_k kd_ge (ev 4) (ed_pow ed_int ed_int ⟨by decide, by decide, by decide⟩)))) ?_))
      by_cases hq : (decide (at_ < ((cells.map Dt.int).length : Int)) && decide ((10 : Int) ^ (18 : Int).toNat ≤ cell)) = true
      · rw [if_pos hq]
        have hc0 : 0 ≤ cell := by
          have := of_decide_eq_true (Bool.and_eq_true _ _ ▸ hq).2
          have e : (10 : Int) ^ (18 : Int).toNat = 1000000000000000000 := by decide
          rw [e] at this
          omega
        refine ws_cons (w1_setix (n := 0) (we_p (ed_fdiv (ev 4) (ev 1) h0 hnb) ⟨_, 2, rfl, ev 0, ed_int, rfl, ?_⟩))
        refine ws_one (w1_retp (ed_mod (ev 4) (ev 1) h0) ⟨cells, at_ + 1, cell / n, k0 + 1, rfl, hcl, by omega, by omega, Int.ediv_nonneg hc0 (by omega), ?_⟩)
        exact ⟨_, _, rfl, g _ _ (mo cell).1 (mo cell).2 (by omega)⟩
      rw [if_neg hq]
      refine ws_nil ?_
      have b1 : Bt 32 (cell % 2147483629 + 11) := bt_of (by simp; omega) (by simp; omega)
      have ba : Bt 20 at_ := bt_of (by simp; omega) (by simp; omega)
      have b2 : Bt 45 (at_ * at_ + 5 * at_ + 3) := ((ba.mul ba).add (Bt.mul (m := 3) (show (5 : Int).natAbs < 2 ^ 3 by decide) ba)).add (n := 2) (show (3 : Int).natAbs < 2 ^ 2 by decide) |>.up (by decide)
      refine ws_cons (w1_setp (ix := 5) (ed_mod (ed_mul (ed_add (ed_mod (ev 4) ed_int (by decide)) ed_int) (ed_add (ed_add (ed_mul (ev 3) (ev 3) ba ba) (ed_mul ed_int (ev 3) (show Bt 3 5 by show (5 : Int).natAbs < 2 ^ 3; decide) ba)) ed_int) b1 b2) ed_int (by decide)) ?_ sc__law_draw.nd rfl (.inl rfl))
      have n1 := Int.emod_nonneg ((cell % 2147483629 + 11) * (at_ * at_ + 5 * at_ + 3)) (show (2147483647 : Int) ≠ 0 by decide)
      have n2 := Int.emod_lt_of_pos ((cell % 2147483629 + 11) * (at_ * at_ + 5 * at_ + 3)) (show (0 : Int) < 2147483647 by decide)
      generalize (cell % 2147483629 + 11) * (at_ * at_ + 5 * at_ + 3) % 2147483647 = x at *
      refine ws_cons (w1_setp (ix := 5) (ed_mod (ed_mul (ed_mod (ed_add (ed_pow (ev 5) ed_int ⟨by decide, by decide, by omega⟩) (ed_mul ed_int (ev 3) (show Bt 20 69621 by show (69621 : Int).natAbs < 2 ^ 20; decide) ba)) ed_int (by decide)) ed_int (m := 32) (bt_of (by have := Int.emod_nonneg (x ^ (3 : Int).toNat + 69621 * at_) (show (2147483587 : Int) ≠ 0 by decide); simp; omega) (by have := Int.emod_lt_of_pos (x ^ (3 : Int).toNat + 69621 * at_) (show (0 : Int) < 2147483587 by decide); simp; omega)) (show Bt 20 40692 by show (40692 : Int).natAbs < 2 ^ 20; decide)) ed_int (by decide)) ?_ sc__law_draw.nd rfl (.inl rfl))
      have p1 := Int.emod_nonneg ((x ^ (3 : Int).toNat + 69621 * at_) % 2147483587 * 40692) (show (2147483399 : Int) ≠ 0 by decide)
      have p2 := Int.emod_lt_of_pos ((x ^ (3 : Int).toNat + 69621 * at_) % 2147483587 * 40692) (show (0 : Int) < 2147483399 by decide)
      generalize (x ^ (3 : Int).toNat + 69621 * at_) % 2147483587 * 40692 % 2147483399 = y at *
      have last : ∀ z : Int, WS T (bX W "_law_draw" N__law_draw (defScope s__law_draw) f cdv Ar outer s H E) ((defBody s__law_draw).drop 9) [some (.adr pn), some (.int n), none, some (.int at_), some (.int cell), some (.int z)] [(pn, penL cells (at_ + 1) dig)] { nx := fun _ _ => False, rt := fun d M' => ∃ cells' at' dig' k', M' = [(pn, penL cells' at' dig')] ∧ cells'.length ≤ 63 ∧ 0 ≤ at' ∧ at' ≤ (k' : Nat) ∧ 0 ≤ dig' ∧ ∃ n' rest, [(pn, MO.pen k')] = (pn, .pen n') :: rest ∧ Ψ d n' } := by
        intro z
        refine ws_one (w1_retp (ed_mod (ed_fdiv (n := 7) (ev 5) ed_int (by decide) (by show (64 : Int).natAbs < 2 ^ 7; decide)) (ev 1) h0) ⟨cells, at_ + 1, dig, k0 + 1, rfl, hcl, by omega, by omega, hd0, ?_⟩)
        exact ⟨_, _, rfl, g _ _ (mo _).1 (mo _).2 (by omega)⟩
      refine ws_cons (w1_ifp (td_k kd_gt (ev 1) (ed_pow ed_int ed_int ⟨by decide, by decide, by decide⟩)) (fun _ => ?_) fun _ => ws_nil (last y))
      refine ws_one (w1_setp (ix := 5) (ed_add (ed_mul (ev 5) ed_int (show Bt 32 y from bt_of (by simp; omega) (by simp; omega)) (show Bt 32 2147483629 by show (2147483629 : Int).natAbs < 2 ^ 32; decide)) (ed_mod (ed_mul (ed_mod (ev 5) ed_int (by decide)) ed_int (m := 32) (bt_of (by have := Int.emod_nonneg y (show (1000003 : Int) ≠ 0 by decide); simp; omega) (by have := Int.emod_lt_of_pos y (show (0 : Int) < 1000003 by decide); simp; omega)) (show Bt 20 48271 by show (48271 : Int).natAbs < 2 ^ 20; decide)) ed_int (by decide))) (last _) sc__law_draw.nd rfl (.inl rfl))
    refine ws_cons (w1_if (wt_view (n := 0) (ix := 0) rfl rfl (td_k kd_gt (ed_b (bd_lenL Z.n_len) (by rfl) (ad_cons (ed_ixL (ev 0) ed_int rfl) ad_nil)) ed_int) ?_))
    by_cases hl0 : 0 < ((cells.map Dt.int).length : Int)
    · rw [if_pos (decide_eq_true hl0)]
      have i1 := Int.emod_nonneg at_ (show ((cells.map Dt.int).length : Int) ≠ 0 by omega)
      have i2 := Int.emod_lt_of_pos at_ hl0
      have hj : (at_ % ((cells.map Dt.int).length : Int)).toNat < cells.length := by rw [List.length_map] at *; omega
      refine ws_one (w1_set (ix := 4) (we_view (n := 0) (ix := 0) rfl rfl (ed_ixL (ed_ixL (ev 0) ed_int rfl) (ed_mod (ev 3) (ed_b (bd_lenL Z.n_len) (by rfl) (ad_cons (ed_ixL (ev 0) ed_int rfl) ad_nil)) hl0) (atI_map (f := Dt.int) (j := (at_ % ((cells.map Dt.int).length : Int)).toNat) (by omega) (List.getElem?_eq_getElem hj))) rfl (fin _)) sc__law_draw.nd rfl (.inl rfl))
    · rw [if_neg (by simpa using hl0)]
      exact ws_nil (fin 7)
end
end BL
set_option maxHeartbeats 4000000
/-! defs of the law: names, numbers, fractions drawn -/
namespace BL
open PySem PySem.Spec PyProof.Rows L2 Evl
def G__law_names (ds : List Dt) (k : Nat) (Ψ : Dt → Nat → Prop) : Prop := ∃ m : Nat, ds = [.int m] ∧ m ≤ 4 ∧ k + 10 ≤ mostDraws ∧ ∀ (ns : List Str) (k' : Nat), ns.length = m → (∀ x ∈ ns, GN x) → ns.Nodup → k' ≤ k + 10 → Ψ (.lst (ns.map .str)) k'
def G__law_numbers (ds : List Dt) (k : Nat) (Ψ : Dt → Nat → Prop) : Prop := ∃ m : Nat, ds = [.int m] ∧ m ≤ 14 ∧ k + 10 ≤ mostDraws ∧ ∀ (ns : List Int) (k' : Nat), ns.length = m → (∀ x ∈ ns, 1 ≤ x ∧ x ≤ 99991) → ns.Nodup → k' ≤ k + 10 → Ψ (.lst (ns.map .int)) k'
def G__law_above (ds : List Dt) (k : Nat) (Ψ : Dt → Nat → Prop) : Prop := ds = [] ∧ k + 3 ≤ mostDraws ∧ ∀ (x : Fr) (k' : Nat), Gf 32 x → 0 < x.1 → k' ≤ k + 3 → Ψ (frp x) k'
def G__law_from (ds : List Dt) (k : Nat) (Ψ : Dt → Nat → Prop) : Prop := ds = [] ∧ k + 5 ≤ mostDraws ∧ ∀ (x : Fr) (k' : Nat), Gf 32 x → 0 ≤ x.1 → k' ≤ k + 5 → Ψ (frp x) k'
theorem low_gf {t b : Int} (h0 : 0 < b) (ht : Bt 32 t) (hb : Bt 32 b) : Gf 32 (lowF t b) := ⟨lowF_fb h0 ht hb, lowF_fv h0⟩
theorem low_nn {t b : Int} (h0 : 0 < b) (ht : 0 ≤ t) : 0 ≤ (lowF t b).1 := Int.ediv_nonneg ht (Int.le_of_lt (gcdI_pos h0))
theorem low_ps {t b : Int} (h0 : 0 < b) (ht : 0 < t) : 0 < (lowF t b).1 := by
  have h1 := (lowF_mul (t := t) h0).1
  have h2 := low_nn h0 (Int.le_of_lt ht)
  by_cases z : (lowF t b).1 = 0
  · rw [z, Int.zero_mul] at h1; omega
  · omega
def isFrm (x : Fr) : Prop := Gf 32 x ∧ 0 ≤ x.1
theorem froms_at {a : Int} {x : Fr} {v : Int} (h0 : 0 ≤ v) (h : v < 3) : atI [fr 0 1, fr a 1, frp x] v = some (frp (if v = 0 then (0, 1) else if v = 1 then (a, 1) else x)) := by
  have : v = 0 ∨ v = 1 ∨ v = 2 := by omega
  rcases this with rfl | rfl | rfl <;> rfl
def fars : List Int := [6, 6, 12, 12, 999999999]
theorem fars_ok : ∀ w ∈ fars, 6 ≤ w ∧ w ≤ 999999999 := by decide
theorem bt32 {i : Int} (h0 : 0 ≤ i) (h : i ≤ 2000000000) : Bt 32 i := bt_of (by simp; omega) (by simp; omega)
theorem letters' : (("abcdefghijklmnopqrstuvwxyz" : Str).cps.toList) = List.range' 97 26 := by decide +kernel
theorem letterAt {i : Int} (h0 : 0 ≤ i) (h : i < 26) : atI (("abcdefghijklmnopqrstuvwxyz" : Str).cps.toList) i = some (97 + i.toNat) := by
  refine atI_nn (j := i.toNat) (by omega) ?_
  rw [letters', List.getElem?_range' (by omega)]
  congr 1
  omega
section
variable {W : Wo} {T : Tb}
theorem c__law_above (Z : En W) (A : At W "_law_above" s__law_above) (C__law_low : Cal W T 1 "_law_low" P__law_low R__law_low) (C__law_draw : CalP W T 1 "_law_draw" P__law_draw G__law_draw) : CalP W T 2 "_law_above" P__law_above G__law_above :=
  calP_of A sc__law_above bn__law_above fun f cdv Ar outer s H E pn k0 ds Ψ hr g hl => by
    obtain ⟨rfl, hk, g⟩ := g
    refine ws_cons ?_
    refine w1_set (ix := 1) (hs := ?_) (hf := ?_) ?_ ?_ ?_ ?_
    case refine_2 => exact sc__law_above.nd
    case refine_3 => rfl
    case refine_4 => first | exact .inl rfl | exact .inr rfl
    case refine_5 => rfl
    case refine_6 => first | exact .inl rfl | exact .inr rfl
    refine we_ixL' ?_
    refine we_p (ed_lst (ad_cons ed_int (ad_cons ed_int (ad_cons ed_int (ad_cons ed_int (ad_cons (ED.is (d' := .int 999999999) (ed_sub (ED.is (d' := .int 1000000000) (ed_pow ed_int ed_int (by exact ⟨by decide, by decide, by decide⟩)) (congrArg Dt.int (by decide +kernel))) ed_int) (congrArg Dt.int (by decide +kernel))) ad_nil)))))) ?_
    refine we_pc C__law_draw (hr.mono (by decide)) (by rfl) (ad_cons (ev 0) (ad_cons ed_int ad_nil)) ⟨_, rfl, (by omega), (by omega), (by first | omega | (unfold mostDraws at *; omega)), fun v1 k1 a1 b1 c1 => ?_⟩
    refine ⟨_, _, _, rfl, rfl, (atI_li (f := Dt.int) (ss := fars) a1 b1), ?_⟩
    have hf := fars_ok _ (getD_memI (ss := fars) a1 b1)
    generalize fars.getD v1.toNat 0 = far at *
    refine ws_one (w1_ret ?_)
    refine we_call C__law_low (hr.mono (by decide)) (by rfl) ?_
    refine wa_cons' ?_
    refine we_add' ?_
    refine we_p ed_int ?_
    refine we_pc C__law_draw (hr.mono (by decide)) (by rfl) (ad_cons (ev 0) (ad_cons (ev 1) ad_nil)) ⟨_, rfl, (by omega), (by omega), (by first | omega | (unfold mostDraws at *; omega)), fun v2 k2 a2 b2 c2 => ?_⟩
    refine ⟨_, _, rfl, rfl, ?_⟩
    refine wa_cons' ?_
    refine we_add' ?_
    refine we_p ed_int ?_
    refine we_pc C__law_draw (hr.mono (by decide)) (by rfl) (ad_cons (ev 0) (ad_cons (ev 1) ad_nil)) ⟨_, rfl, (by omega), (by omega), (by first | omega | (unfold mostDraws at *; omega)), fun v3 k3 a3 b3 c3 => ?_⟩
    refine ⟨_, _, rfl, rfl, ?_⟩
    refine wa_p ad_nil ?_
    refine ⟨rfl, _, (R__law_low.mk (n := 32) (by omega) (bt32 (by omega) (by omega)) (by decide)), ?_⟩
    refine ⟨_, _, rfl, g _ _ (low_gf (by omega) (bt32 (by omega) (by omega)) (bt32 (by omega) (by omega))) (low_ps (by omega) (by omega)) (by omega)⟩
theorem c__law_from (Z : En W) (A : At W "_law_from" s__law_from) (C__law_draw : CalP W T 1 "_law_draw" P__law_draw G__law_draw) (C__law_above : CalP W T 2 "_law_above" P__law_above G__law_above) : CalP W T 3 "_law_from" P__law_from G__law_from :=
  calP_of A sc__law_from bn__law_from fun f cdv Ar outer s H E pn k0 ds Ψ hr g hl => by
    obtain ⟨rfl, hk, g⟩ := g
    refine ws_one (w1_ret ?_)
    refine we_ixL' ?_
    refine we_lst ?_
    refine wa_cons' ?_
    refine we_p (ed_tup (ad_cons ed_int (ad_cons ed_int ad_nil))) ?_
    refine wa_cons' ?_
    refine we_tup ?_
    refine wa_cons' ?_
    refine we_pc C__law_draw (hr.mono (by decide)) (by rfl) (ad_cons (ev 0) (ad_cons ed_int ad_nil)) ⟨_, rfl, (by omega), (by omega), (by first | omega | (unfold mostDraws at *; omega)), fun v1 k1 a1 b1 c1 => ?_⟩
    refine wa_p (ad_cons ed_int ad_nil) ?_
    refine ⟨by exact Nat.le_of_ble_eq_true rfl, ?_⟩
    refine wa_cons' ?_
    refine we_pc C__law_above (hr.mono (by decide)) (by rfl) (ad_cons (ev 0) ad_nil) ⟨rfl, by omega, fun y l1 d1 e1 q1 => ?_⟩
    refine wa_p ad_nil ?_
    refine ⟨by exact Nat.le_of_ble_eq_true rfl, ?_⟩
    refine we_pc C__law_draw (hr.mono (by decide)) (by rfl) (ad_cons (ev 0) (ad_cons ed_int ad_nil)) ⟨_, rfl, (by omega), (by omega), (by first | omega | (unfold mostDraws at *; omega)), fun v2 k2 a2 b2 c2 => ?_⟩
    refine ⟨_, _, _, rfl, rfl, (froms_at a2 b2), ?_⟩
    refine ⟨_, _, rfl, ?_⟩
    refine g _ _ ?_ ?_ (by omega)
    · split
      · exact ⟨as_fb (bt32 (by decide) (by decide)) (by decide), as_fv⟩
      · split
        · exact ⟨as_fb (bt32 a1 (by omega)) (by decide), as_fv⟩
        · exact d1
    · split
      · exact Int.le_refl 0
      · split
        · exact a1
        · exact Int.le_of_lt e1
end
end BL
set_option maxHeartbeats 4000000
/-! defs of the law: names, numbers -/
namespace BL
open PySem PySem.Spec PyProof.Rows L2 Evl
theorem begs_at {v : Int} (h0 : 0 ≤ v) (h : v < 7) : atI [Dt.str "", .str "", .str "a", .str "zz", .str "title", .str "lanesl", .str "b"] v = some (.str (begs.getD v.toNat "")) := atI_ls (f := Dt.str) (ss := begs) h0 h
theorem h26 : Bt 5 26 := by show (26 : Int).natAbs < 2 ^ 5; decide
section
variable {W : Wo} {T : Tb}
theorem c__law_names (Z : En W) (A : At W "_law_names" s__law_names) (C__law_draw : CalP W T 1 "_law_draw" P__law_draw G__law_draw) : CalP W T 2 "_law_names" P__law_names G__law_names :=
  calP_of A sc__law_names bn__law_names fun f cdv Ar outer s H E pn k0 ds Ψ hr g hl => by
    obtain ⟨m, rfl, hm, hk, g⟩ := g
    refine ws_cons ?_
    refine w1_par (i := 2) (j := 3) (hs := ?_) ?_ ?_ ?_ ?_ ?_ ?_ ?_ ?_ ?_
    case refine_2 => rfl
    case refine_3 => exact sc__law_names.nd
    case refine_4 => rfl
    case refine_5 => rfl
    case refine_6 => decide
    case refine_7 => rfl
    case refine_8 => rfl
    case refine_9 => rfl
    case refine_10 => rfl
    refine wa_cons' ?_
    refine we_p ed_str ?_
    refine wa_cons' ?_
    refine we_newL ad_nil fun q => ?_
    refine wa_nil ?_
    refine ⟨_, _, rfl, ?_⟩
    refine ws_cons ?_
    refine w1_par (i := 4) (j := 5) (hs := ?_) ?_ ?_ ?_ ?_ ?_ ?_ ?_ ?_ ?_
    case refine_2 => rfl
    case refine_3 => exact sc__law_names.nd
    case refine_4 => rfl
    case refine_5 => rfl
    case refine_6 => decide
    case refine_7 => rfl
    case refine_8 => rfl
    case refine_9 => rfl
    case refine_10 => rfl
    refine wa_cons' ?_
    refine we_add' ?_
    refine we_ixL' ?_
    refine we_p (ed_lst (ad_cons ed_int (ad_cons ed_int (ad_cons ed_int (ad_cons ed_int (ad_cons ed_int (ad_cons ed_int (ad_cons ed_int (ad_cons ed_int ad_nil))))))))) ?_
    refine we_pc C__law_draw (hr.mono (by decide)) (by rfl) (ad_cons (ev 0) (ad_cons ed_int ad_nil)) ⟨_, rfl, (by omega), (by omega), (by first | omega | (unfold mostDraws at *; omega)), fun v1 k1 a1 b1 c1 => ?_⟩
    refine ⟨_, _, _, rfl, rfl, (atI_li (f := Dt.int) (ss := odds) a1 b1), ?_⟩
    refine we_mul' ?_
    refine we_p ed_int ?_
    refine we_pc C__law_draw (hr.mono (by decide)) (by rfl) (ad_cons (ev 0) (ad_cons ed_int ad_nil)) ⟨_, rfl, (by omega), (by omega), (by first | omega | (unfold mostDraws at *; omega)), fun v2 k2 a2 b2 c2 => ?_⟩
    refine ⟨_, _, rfl, rfl, (by omega), ?_⟩
    refine ⟨_, _, rfl, rfl, ?_⟩
    refine wa_cons' ?_
    refine we_pc C__law_draw (hr.mono (by decide)) (by rfl) (ad_cons (ev 0) (ad_cons ed_int ad_nil)) ⟨_, rfl, (by omega), (by omega), (by first | omega | (unfold mostDraws at *; omega)), fun v3 k3 a3 b3 c3 => ?_⟩
    refine wa_p ad_nil ?_
    refine ⟨_, _, rfl, ?_⟩
    have ho := getD_memI (ss := odds) a1 b1
    generalize odds.getD v1.toNat 0 = o at *
    have b : 0 ≤ v2 ∧ v2 < 13 := ⟨a2, b2⟩
    have hz : ∀ i, 0 ≤ codeF v3 (o + 26 * v2) i ∧ codeF v3 (o + 26 * v2) i < 676 := fun i => codeF_rg
    refine ws_for (xs := List.range m) (f := fun (i : Nat) => .int (0 + (i : Int))) (fun i => [some (.adr pn), some (.int (m : Int)), some (.str "abcdefghijklmnopqrstuvwxyz"), some (.adr q), some (.int (o + 26 * v2)), some (.int (codeF v3 (o + 26 * v2) i)), none, none])
      (fun i M' => ∃ (ns : List Str) (k' : Nat), M' = [(pn, .pen k'), (q, .lst (ns.map .str))] ∧ ns.length = i ∧ (∀ j x, ns[j]? = some x → Ends2 x (codeF v3 (o + 26 * v2) j) ∧ GN x) ∧ k' ≤ k0 + 3 + i) rfl (tg_n (j := 6) sc__law_names.nd rfl (.inl rfl)) ?_ (iw_rng1 (by rfl) Z.n_range (wa_p (ad_cons (ev 1) ad_nil) ⟨_, rfl, by omega, by omega, by rw [show (m : Int).toNat = m by omega]; rfl, [], _, rfl, rfl, by simp, by omega⟩)) ?_ ?_
    · refine ⟨rfl, rfl, rfl, rfl, rfl, ?_, trivial⟩
      show some (Dt.int v3) = some (Dt.int (codeF v3 (o + 26 * v2) 0))
      congr 2
      unfold codeF
      simp
      omega
    · rintro i a M' ha ⟨ns, k', rfl, hl, hns, hk'⟩
      have hi : i < m ∧ a = i := by
        have h1 := (List.getElem?_eq_some_iff.mp ha).1
        rw [List.length_range] at h1
        rw [List.getElem?_range h1] at ha
        exact ⟨h1, (Option.some.inj ha).symm⟩
      have hc0 := hz i
      refine ⟨_, rfl, ?_⟩
      refine ws_cons ?_
      refine w1_set (ix := 7) (hs := ?_) (hf := ?_) ?_ ?_ ?_ ?_
      case refine_2 => exact sc__law_names.nd
      case refine_3 => rfl
      case refine_4 => first | exact .inl rfl | exact .inr rfl
      case refine_5 => rfl
      case refine_6 => first | exact .inl rfl | exact .inr rfl
      refine we_ixL' ?_
      refine we_p (ed_lst (ad_cons ed_str (ad_cons ed_str (ad_cons ed_str (ad_cons ed_str (ad_cons ed_str (ad_cons ed_str (ad_cons ed_str ad_nil)))))))) ?_
      refine we_pc C__law_draw (hr.mono (by decide)) (by rfl) (ad_cons (ev 0) (ad_cons ed_int ad_nil)) ⟨_, rfl, (by omega), (by omega), (by first | omega | (unfold mostDraws at *; omega)), fun v4 k4 a4 b4 c4 => ?_⟩
      refine ⟨_, _, _, rfl, rfl, (begs_at a4 b4), ?_⟩
      have hbg := getD_memS (ss := begs) a4 b4
      generalize begs.getD v4.toNat "" = bg at *
      have hgn := nameF_gn hbg hc0.1 hc0.2
      have hl6 := (begs_ok bg hbg).1
      have hsl : sizeLine = 2 ^ 24 := rfl
      refine ws_cons (w1_expr ?_)
      refine we_app (n := 1) (q := q) (ev 3) rfl ?_
      refine we_p (ed_adds (ed_adds (ev 7) (ed_ixS (ev 2) (ed_fdiv (ev 5) ed_int (by decide) h26) (by exact Nat.le_of_ble_eq_true rfl) (letterAt (by omega) (by omega))) (by rw [hsl]; show bg.length + 1 ≤ _; omega)) (ed_ixS (ev 2) (ed_mod (ev 5) ed_int (by decide)) (by exact Nat.le_of_ble_eq_true rfl) (letterAt (by omega) (by omega))) (by rw [hsl, str_len, str_app, List.length_append, ← str_len]; show bg.length + 1 + 1 ≤ _; omega)) ?_
      refine ⟨_, rfl, by rw [List.length_map]; omega, ?_⟩
      refine ws_one ?_
      refine w1_setp (ix := 5) (ed_mod (ed_add (ev 5) (ev 4)) ed_int (by decide)) ?_ sc__law_names.nd rfl (.inl rfl)
      refine ⟨⟨rfl, rfl, rfl, rfl, rfl, ?_, trivial⟩, ns ++ [nameF bg (codeF v3 (o + 26 * v2) i)], k4, ?_, by rw [List.length_append, hl]; rfl, ?_, by omega⟩
      · show some (Dt.int _) = some (Dt.int _)
        rw [codeF_step]
      · rw [List.map_append]
        rfl
      · intro j x hj
        by_cases hjl : j < ns.length
        · rw [List.getElem?_append_left hjl] at hj
          exact hns j x hj
        · have hjj : j = ns.length := by
            have := (List.getElem?_eq_some_iff.mp hj).1
            rw [List.length_append] at this
            simp only [List.length_cons, List.length_nil] at this
            omega
          subst hjj
          rw [List.getElem?_append_right (Nat.le_refl _), Nat.sub_self] at hj
          have e : nameF bg (codeF v3 (o + 26 * v2) i) = x := by simpa using hj
          rw [← e, hl]
          exact ⟨nameF_ends, hgn⟩
    · rintro M' ⟨ns, k', rfl, hl, hns, hk'⟩
      rw [List.length_range] at hl hk'
      refine ws_freeze (n := 1) (ix := 3) rfl rfl ?_
      refine ws_one (w1_retp (ev 3) ⟨_, _, rfl, ?_⟩)
      refine g ns k' hl (fun x hx => ?_) ?_ (by omega)
      · obtain ⟨j, hj⟩ := List.mem_iff_getElem?.mp hx
        exact (hns j x hj).2
      · exact names_nodup (fun i x h => (hns i x h).1) hz fun i j h1 h2 => codeF_inj ho b.1 b.2 (by omega) h2
theorem steps_at {a b v : Int} (h0 : 0 ≤ v) (h : v < 2) : atI [Dt.int a, .int b] v = some (.int (if v = 0 then a else b)) := by
  have : v = 0 ∨ v = 1 := by omega
  rcases this with rfl | rfl <;> rfl
theorem btk {m x0 : Nat} (hm : m ≤ 14) (h : x0 ∈ List.range ((m : Int).toNat)) : Bt 8 (0 + (x0 : Int)) := by
  rw [List.mem_range] at h
  exact bt_of (by simp; omega) (by simp; omega)
theorem c__law_numbers (Z : En W) (A : At W "_law_numbers" s__law_numbers) (C__law_draw : CalP W T 1 "_law_draw" P__law_draw G__law_draw) : CalP W T 2 "_law_numbers" P__law_numbers G__law_numbers :=
  calP_of A sc__law_numbers bn__law_numbers fun f cdv Ar outer s H E pn k0 ds Ψ hr g hl => by
    obtain ⟨m, rfl, hm, hk, g⟩ := g
    refine ws_cons ?_
    refine w1_unp (is := [2, 3]) ?_ rfl (tgc (i := 2) (tgc (i := 3) Tg.nil (by exact sc__law_numbers.nd)) (by exact sc__law_numbers.nd))
    refine we_tup ?_
    refine wa_cons' ?_
    refine we_pc C__law_draw (hr.mono (by decide)) (by rfl) (ad_cons (ev 0) (ad_cons ed_int ad_nil)) ⟨_, rfl, (by omega), (by omega), (by first | omega | (unfold mostDraws at *; omega)), fun v1 k1 a1 b1 c1 => ?_⟩
    refine wa_cons' ?_
    refine we_add' ?_
    refine we_p ed_int ?_
    refine we_ixL' ?_
    refine we_lst ?_
    refine wa_cons' ?_
    refine we_pc C__law_draw (hr.mono (by decide)) (by rfl) (ad_cons (ev 0) (ad_cons ed_int ad_nil)) ⟨_, rfl, (by omega), (by omega), (by first | omega | (unfold mostDraws at *; omega)), fun v2 k2 a2 b2 c2 => ?_⟩
    refine wa_cons' ?_
    refine we_pc C__law_draw (hr.mono (by decide)) (by rfl) (ad_cons (ev 0) (ad_cons ed_int ad_nil)) ⟨_, rfl, (by omega), (by omega), (by first | omega | (unfold mostDraws at *; omega)), fun v3 k3 a3 b3 c3 => ?_⟩
    refine wa_p ad_nil ?_
    refine ⟨by exact Nat.le_of_ble_eq_true rfl, ?_⟩
    refine we_pc C__law_draw (hr.mono (by decide)) (by rfl) (ad_cons (ev 0) (ad_cons ed_int ad_nil)) ⟨_, rfl, (by omega), (by omega), (by first | omega | (unfold mostDraws at *; omega)), fun v4 k4 a4 b4 c4 => ?_⟩
    refine ⟨_, _, _, rfl, rfl, (steps_at a4 b4), ?_⟩
    refine ⟨_, _, rfl, rfl, ?_⟩
    refine wa_p ad_nil ?_
    refine ⟨by exact Nat.le_of_ble_eq_true rfl, ?_⟩
    refine ⟨_, rfl, rfl, ?_⟩
    have hs : ∃ w : Int, w = (if v4 = 0 then v2 else v3) ∧ 0 ≤ w ∧ w < 99990 := by
      refine ⟨_, rfl, ?_⟩
      split <;> omega
    obtain ⟨w, ew, w0, w1⟩ := hs
    rw [← ew]
    refine ws_one (w1_retp (ed_lc0 (j := 4) (iw_rng1 (by rfl) Z.n_range (wa_p (ad_cons (ev 1) ad_nil) ⟨_, rfl, (by omega), (by omega), rfl, rfl⟩)) rfl (by exact sc__law_numbers.nd) (by show BlkOk N__law_numbers (defScope s__law_numbers) _ _; exact blkOk_by (by decide +kernel)) (pgB (by exact sc__law_numbers.nd) rfl rfl) (by rw [List.length_range]; omega) (fun x0 h0 _ _ _ _ _ => (ed_add ed_int (ed_mod (ed_add (ev 2) (ed_mul (ev 4) (ev 3) (btk hm h0) (bt_of (n := 32) (by simp; omega) (by simp; omega)))) ed_int (by decide))))) ⟨_, _, rfl, ?_⟩)
    have q := g ((List.range m).map (numF v1 (1 + w))) k4 (by simp) (fun x hx => ?_) (nums_nodup (by omega) (by omega) hm) (by omega)
    · rw [List.map_map] at q
      exact q
    · obtain ⟨i, _, rfl⟩ := List.mem_map.mp hx
      exact numF_rg
end
end BL
set_option maxHeartbeats 4000000
/-! defs of the law: tempo, take -/
namespace BL
open PySem PySem.Spec PyProof.Rows L2 Evl
section
variable {T : Tb} {X : Cx} {ρ : Rho} {M : Mem} {E : DE}
theorem ws_mid {st : Stmt} {rest : List Stmt} (P : Rho → Mem → Prop) (h : W1 T X st ρ M { E with nx := P }) (k : ∀ ρ' M', P ρ' M' → WS T X rest ρ' M' E) : WS T X (st :: rest) ρ M E :=
  ws_cons fun F H σ D f s m kf => h F H σ D f s m ⟨fun σ' ρ' M' F' H' p q s' => kf.nx σ' ρ' M' F' H' (k ρ' M' p) q s', kf.rt, kf.bk, kf.ct⟩
theorem WD.is {e : Expr} {t u : Bool} (h : WD T X e ρ t) (q : t = u) : WD T X e ρ u := q ▸ h
theorem wt_view' {e : Expr} {ds : List Dt} {n ix : Nat} {q : Addr} {t : Bool} {Ψ : Bool → Mem → Prop} (hM : M[n]? = some (q, .lst ds)) (hρ : ρ[ix]? = some (some (.adr q))) (h : WD T X e (ρ.set ix (some (.lst ds))) t) (k : Ψ t M) : WW T X e ρ M Ψ := fun F H σ Q f s m kk => by
  obtain ⟨vs, hv, fq, _, f1, s1⟩ := view_in f s m hM hρ
  refine h _ H σ Q f1 s1 fun F' H' f' s' => ?_
  obtain ⟨hq', rr⟩ := view_out (X := X) f m hv fq f' s'
  exact kk t M _ H' k rr
theorem wd_orT {a b : Expr} {rest : List Expr} {pos : Pos} (h : TD T X a ρ true) : WD T X (.BoolOp .Or (a :: b :: rest) pos) ρ true := wd_or (u := true) h fun z => by cases z
/-- tuple(e), e a list that is drawn -/
theorem we_tupleL {e : Expr} {p pos : Pos} {Ψ : Dt → Mem → Prop} (hm : X.mg "tuple" = none) (hg : Gl X "tuple") (ha : WE T X e ρ M fun d M' => ∃ ds, d = .lst ds ∧ Ψ (.tup ds) M')
    (he : starEach [e] X.env = (false, eval e X.env) :: starEach [] X.env := by exact st_any rfl) : WE T X (.Call (.Name "tuple" p) [e] [] pos) ρ M Ψ := fun F H σ Q f s m k =>
  PE_w (pe_callTy call_tuple_of hg hm boot_tuple (pa_cons pe_w pa_nil he) (by decide) (by decide) he) (ha F H σ _ f s m fun v d M1 F1 H1 ⟨ds, e1, p1⟩ q1 r1 => by
    subst e1
    obtain ⟨a, us, rfl, h2, h3⟩ := rp_lst.mp r1
    exact ⟨a, us, rfl, .inl ⟨SqL.of (q1.fine.sub _ _ h2), fun l hl => by
      obtain ⟨f', s', r'⟩ := cat_new hl q1.fine h3
      exact k _ _ M1 _ _ p1 (q1.trans (Reach.pure q1.mem f' s')) r'⟩⟩)
end
theorem pick3F {x y z : Fr} {v : Int} (h0 : 0 ≤ v) (h : v < 3) : atI [frp x, frp y, frp z] v = some (frp (if v = 0 then x else if v = 1 then y else z)) := by
  have : v = 0 ∨ v = 1 ∨ v = 2 := by omega
  rcases this with rfl | rfl | rfl <;> rfl
theorem pickT {a b c : Int} {t : Bool} : atI [Dt.int a, .int b, .int c] ((if t = true then 1 else 0) * 2) = some (.int (if t = true then c else a)) := by cases t <;> rfl
theorem pickB {a b : Int} {t : Bool} : atI [Dt.int a, .int b] (if t = true then 1 else 0) = some (.int (if t = true then b else a)) := by cases t <;> rfl
def manies : List Int := [12, 12, 9000]
theorem manies_ok : ∀ w ∈ manies, 12 ≤ w ∧ w ≤ 9000 := by decide
theorem manies_ps {v : Int} (a : 0 ≤ v) (b : v < 3) : 0 < manies.getD v.toNat 0 := by have := manies_ok _ (getD_memI (ss := manies) a b); omega
theorem manies_lt {v : Int} (a : 0 ≤ v) (b : v < 3) : manies.getD v.toNat 0 < 2 ^ 40 := by have := manies_ok _ (getD_memI (ss := manies) a b); omega
theorem cln_sg {n : Nat} {s : Sg} : Cln (n + 2) s.d := cln_cons cln_int (cln_cons cln_fr (cln_cons cln_fr cln_nil))
theorem cln_sgs {n : Nat} {ss : List Sg} : Cln (n + 3) (.lst (ss.map Sg.d)) := cln_mapL fun _ _ => cln_sg
theorem eqD_nil {ds : List Dt} : eqD (.lst ds) (.lst []) = decide (ds = []) := eqD_dec (by simp)
def GoAll (ss : List Sg) : Prop := ∀ (i : Nat) (a b : Sg), ss[i]? = some a → ss[i + 1]? = some b → goOnB a b = false
theorem goAll_snoc {ss : List Sg} {z : Sg} (h : GoAll ss) (k : ∀ a, ss.getLast? = some a → goOnB a z = false) : GoAll (ss ++ [z]) := by
  intro i a b ha hb
  by_cases h1 : i + 1 < ss.length
  · rw [List.getElem?_append_left (by omega)] at ha
    rw [List.getElem?_append_left h1] at hb
    exact h i a b ha hb
  · have h2 : i + 1 = ss.length := by
      have := (List.getElem?_eq_some_iff.mp hb).1
      simp at this
      omega
    rw [List.getElem?_append_left (by omega)] at ha
    rw [h2, List.getElem?_append_right (Nat.le_refl _), Nat.sub_self] at hb
    have e : z = b := by simpa using hb
    subst e
    refine k a ?_
    rw [List.getLast?_eq_getElem?, show ss.length - 1 = i by omega]
    exact ha
theorem goAll_init {ss : List Sg} {z : Sg} (h : GoAll (ss ++ [z])) : GoAll ss := by
  intro i a b ha hb
  have h1 : i + 1 < ss.length := (List.getElem?_eq_some_iff.mp hb).1
  exact h i a b (by rw [List.getElem?_append_left (by omega)]; exact ha) (by rw [List.getElem?_append_left h1]; exact hb)
def G__law_tempo (ds : List Dt) (k : Nat) (Ψ : Dt → Nat → Prop) : Prop := ds = [.int 3] ∧ k + 40 ≤ mostDraws ∧ ∀ (t : Tm) (k' : Nat), GTm t → k' ≤ k + 40 → Ψ t.d k'
def G__law_take (ds : List Dt) (k : Nat) (Ψ : Dt → Nat → Prop) : Prop := ∃ x : Str, ds = [.str x] ∧ GN x ∧ k + 50 ≤ mostDraws ∧ ∀ (t : Tk) (k' : Nat), GTk t → t.name = x → k' ≤ k + 50 → Ψ t.d k'
section
variable {W : Wo} {T : Tb}
theorem c__law_tempo (Z : En W) (A : At W "_law_tempo" s__law_tempo) (C__law_above : CalP W T 2 "_law_above" P__law_above G__law_above) (C__law_draw : CalP W T 1 "_law_draw" P__law_draw G__law_draw) (C__law_goes_on : Cal W T 3 "_law_goes_on" P__law_goes_on R__law_goes_on) : CalP W T 4 "_law_tempo" P__law_tempo G__law_tempo :=
  calP_of A sc__law_tempo bn__law_tempo fun f cdv Ar outer s H E pn k0 ds Ψ hr g hl => by
    obtain ⟨rfl, hk, g⟩ := g
    refine ws_cons ?_
    refine w1_set (ix := 2) (hs := ?_) (hf := ?_) ?_ ?_ ?_ ?_
    case refine_2 => exact sc__law_tempo.nd
    case refine_3 => rfl
    case refine_4 => first | exact .inl rfl | exact .inr rfl
    case refine_5 => rfl
    case refine_6 => first | exact .inl rfl | exact .inr rfl
    refine we_pc C__law_above (hr.mono (by decide)) (by rfl) (ad_cons (ev 0) ad_nil) ⟨rfl, by omega, fun r k1 r1 r2 r3 => ?_⟩
    refine ws_cons (w1_newL (ix := 3) ad_nil (fun q => ?_) sc__law_tempo.nd rfl (.inl rfl))
    refine ws_cons ?_
    refine w1_for PassesOwn.never rfl (tg_n (j := 4) sc__law_tempo.nd rfl (.inl rfl)) (Ψ := fun ds M' => ∃ (m : Nat) (k' : Nat), m ≤ 3 ∧ ds = rgD 0 m ∧ M' = [(pn, .pen k'), (q, .lst [])] ∧ k' ≤ k0 + 4) ?_ ?_
    · refine iw_rng1 (by rfl) Z.n_range ?_
      refine wa_cons' ?_
      refine we_pc C__law_draw (hr.mono (by decide)) (by rfl) (ad_cons (ev 0) (ad_cons (ed_add (ev 1) ed_int) ad_nil)) ⟨_, rfl, (by decide), (by decide), (by first | omega | (unfold mostDraws at *; omega)), fun v2 k2 a2 b2 c2 => ?_⟩
      refine wa_nil ?_
      exact ⟨v2, rfl, by omega, by omega, v2.toNat, k2, by omega, rfl, rfl, by omega⟩
    · rintro ds M1 ⟨m, k2, hm, rfl, rfl, hk2⟩
      refine ⟨fun i ρ' M' => ∃ (ss : List Sg) (k' : Nat) (x4 x5 x6 x7 : Option Dt), ρ' = [some (.adr pn), some (.int 3), some (frp r), some (.adr q), x4, x5, x6, x7] ∧ M' = [(pn, .pen k'), (q, .lst (ss.map Sg.d))] ∧ ss.length ≤ i ∧ i ≤ 3 ∧ (∀ s ∈ ss, GSg s) ∧ GoAll ss ∧ k' ≤ k0 + 4 + 10 * i, ?_, ?_, ?_⟩
      · exact ⟨[], k2, _, _, _, _, rfl, rfl, by simp, by omega, by simp, by intro i a b h; simp at h, by omega⟩
      · rintro i d ρ' M' hd ⟨ss, k', x4, x5, x6, x7, rfl, rfl, hl, hi, hg, hgo, hk'⟩
        obtain ⟨him, rfl⟩ := rgD_get hd
        refine ⟨_, rfl, ?_⟩
        refine ws_cons ?_
        refine w1_set (ix := 5) (hs := ?_) (hf := ?_) ?_ ?_ ?_ ?_
        case refine_2 => exact sc__law_tempo.nd
        case refine_3 => rfl
        case refine_4 => first | exact .inl rfl | exact .inr rfl
        case refine_5 => rfl
        case refine_6 => first | exact .inl rfl | exact .inr rfl
        refine we_pc C__law_above (hr.mono (by decide)) (by rfl) (ad_cons (ev 0) ad_nil) ⟨rfl, by omega, fun f0 k3 f1 f2 f3 => ?_⟩
        refine ws_mid (fun ρ' M' => ∃ (x : Fr) (k'' : Nat), ρ' = [some (.adr pn), some (.int 3), some (frp r), some (.adr q), some (.int (0 + (i : Int))), some (frp x), x6, x7] ∧ M' = [(pn, .pen k''), (q, .lst (ss.map Sg.d))] ∧ Gf 32 x ∧ 0 < x.1 ∧ k'' ≤ k' + 4) ?_ ?_
        · refine w1_if (wt_w (ww_and ?_))
          refine wt_view (n := 1) (ix := 3) rfl rfl (td_neD (ev 3) (ed_lst ad_nil) (by exact cln_sgs) (by exact cln_lnil) hr.units) ?_
          rw [eqD_nil]
          cases hlast : ss.getLast? with
          | none =>
            have e0 : ss = [] := by rw [List.getLast?_eq_none_iff] at hlast; exact hlast
            subst e0
            rw [if_neg (by simp)]
            exact iteF (ws_nil ⟨f0, k3, rfl, rfl, f1, f2, by omega⟩)
          | some z =>
            obtain ⟨ini, rfl⟩ : ∃ ini, ss = ini ++ [z] := List.getLast?_eq_some_iff.mp hlast
            have hz := hg z (by simp)
            rw [if_pos (by simp)]
            refine ww_and1 (wt_eqI' ?_)
            refine we_pc C__law_draw (hr.mono (by decide)) (by rfl) (ad_cons (ev 0) (ad_cons ed_int ad_nil)) ⟨_, rfl, (by omega), (by omega), (by first | omega | (unfold mostDraws at *; omega)), fun v4 k4 a4 b4 c4 => ?_⟩
            refine ⟨v4, 0, rfl, ed_int, ?_⟩
            by_cases h4 : v4 = 0
            · rw [if_pos (decide_eq_true h4)]
              refine ws_one (w1_set (ix := 5) (we_view (n := 1) (ix := 3) rfl rfl (ed_ixT (ed_ixL (ev 3) (ed_neg ed_int) (atI_last (f := Sg.d) (a := z) (by simp))) ed_int rfl) rfl ?_) sc__law_tempo.nd rfl (.inl rfl))
              exact ⟨z.last, k4, rfl, rfl, hz.l, hz.l0, by omega⟩
            · rw [if_neg (by simpa using h4)]
              exact ws_nil ⟨f0, k4, rfl, rfl, f1, f2, by omega⟩
        · rintro ρ' M' ⟨x, k4, rfl, rfl, x1, x2, hk4⟩
          refine ws_cons ?_
          refine w1_set (ix := 6) (hs := ?_) (hf := ?_) ?_ ?_ ?_ ?_
          case refine_2 => exact sc__law_tempo.nd
          case refine_3 => rfl
          case refine_4 => first | exact .inl rfl | exact .inr rfl
          case refine_5 => rfl
          case refine_6 => first | exact .inl rfl | exact .inr rfl
          refine we_ixL' ?_
          refine we_lst ?_
          refine wa_cons' ?_
          refine we_p (ev 5) ?_
          refine wa_cons' ?_
          refine we_pc C__law_above (hr.mono (by decide)) (by rfl) (ad_cons (ev 0) ad_nil) ⟨rfl, by omega, fun y0 k5 y1 y2 y3 => ?_⟩
          refine wa_p (ad_cons (ev 2) ad_nil) ?_
          refine ⟨by exact Nat.le_of_ble_eq_true rfl, ?_⟩
          refine we_pc C__law_draw (hr.mono (by decide)) (by rfl) (ad_cons (ev 0) (ad_cons ed_int ad_nil)) ⟨_, rfl, (by omega), (by omega), (by first | omega | (unfold mostDraws at *; omega)), fun v1 k1 a1 b1 c1 => ?_⟩
          refine ⟨_, _, _, rfl, rfl, (pick3F a1 b1), ?_⟩
          have hy : ∃ y : Fr, y = (if v1 = 0 then x else if v1 = 1 then y0 else r) ∧ Gf 32 y ∧ 0 < y.1 := by
            refine ⟨_, rfl, ?_⟩
            split
            · exact ⟨x1, x2⟩
            · split
              · exact ⟨y1, y2⟩
              · exact ⟨r1, r2⟩
          obtain ⟨y, ey, yy1, yy2⟩ := hy
          rw [← ey]
          clear ey
          refine ws_cons ?_
          refine w1_set (ix := 7) (hs := ?_) (hf := ?_) ?_ ?_ ?_ ?_
          case refine_2 => exact sc__law_tempo.nd
          case refine_3 => rfl
          case refine_4 => first | exact .inl rfl | exact .inr rfl
          case refine_5 => rfl
          case refine_6 => first | exact .inl rfl | exact .inr rfl
          refine we_tup ?_
          refine wa_cons' ?_
          refine we_add' ?_
          refine we_p ed_int ?_
          refine we_callP C__law_draw (hr.mono (by decide)) (by rfl) ?_
          refine wa_cons' ?_
          refine we_p (ev 0) ?_
          refine wa_cons' ?_
          refine we_ixL' ?_
          refine we_p (ed_lst (ad_cons ed_int (ad_cons ed_int (ad_cons ed_int ad_nil)))) ?_
          refine we_pc C__law_draw (hr.mono (by decide)) (by rfl) (ad_cons (ev 0) (ad_cons ed_int ad_nil)) ⟨_, rfl, (by omega), (by omega), (by first | omega | (unfold mostDraws at *; omega)), fun v2 k2 a2 b2 c2 => ?_⟩
          refine ⟨_, _, _, rfl, rfl, (atI_li (f := Dt.int) (ss := manies) a2 b2), ?_⟩
          refine wa_p ad_nil ?_
          refine ⟨_, _, _, _, rfl, rfl, rfl, ⟨_, rfl, (manies_ps a2 b2), (manies_lt a2 b2), (by first | omega | (unfold mostDraws at *; omega)), fun v6 k6 a6 b6 c6 => ?_⟩⟩
          refine ⟨_, _, rfl, rfl, ?_⟩
          refine wa_p (ad_cons (ev 5) (ad_cons (ev 6) ad_nil)) ?_
          refine ⟨by exact Nat.le_of_ble_eq_true rfl, ?_⟩
          have hm2 := manies_ok _ (getD_memI (ss := manies) a2 b2)
          generalize manies.getD v2.toNat 0 = far at *
          have hsg : GSg ⟨1 + v6, x, y⟩ := ⟨by show 1 ≤ 1 + v6; omega, by show 1 + v6 ≤ 9000; omega, x1, x2, yy1, yy2⟩
          refine ws_one (w1_if ?_)
          cases hlast : ss.getLast? with
          | none =>
            have e0 : ss = [] := by rw [List.getLast?_eq_none_iff] at hlast; exact hlast
            subst e0
            refine wt_view (n := 1) (ix := 3) rfl rfl (t := true) (td_w (wd_orT (TD.is (td_eqD (ev 3) (ed_lst ad_nil) (by exact cln_lnil) (by exact cln_lnil) hr.units) (eqD_t rfl)))) ?_
            refine iteT ?_
            refine ws_one (w1_expr (we_app (n := 1) (q := q) (ev 3) rfl (we_p (ev 7) ⟨_, rfl, by decide, ?_⟩)))
            exact ⟨[⟨1 + v6, x, y⟩], k6, _, _, _, _, rfl, rfl, by simp, by omega, by simpa using hsg, by intro i a b h h2; simp at h2, by omega⟩
          | some z =>
            obtain ⟨ini, rfl⟩ : ∃ ini, ss = ini ++ [z] := List.getLast?_eq_some_iff.mp hlast
            have hz := hg z (by simp)
            refine wt_view (n := 1) (ix := 3) rfl rfl (t := !goOnB z ⟨1 + v6, x, y⟩) (TD.is (td_w (wd_or (td_eqD (ev 3) (ed_lst ad_nil) (by exact cln_sgs) (by exact cln_lnil) hr.units) fun hq => (wd_or1 (td_not (td_val (ed_call C__law_goes_on (hr.mono (by decide)) (by rfl) (ad_cons (ed_ixL (ev 3) (ed_neg ed_int) (atI_last (f := Sg.d) (a := z) (by simp))) (ad_cons (ev 7) ad_nil)) (R__law_goes_on.mk (a := z) (b := ⟨1 + v6, x, y⟩) hz hsg))))))) (by rw [eqD_nil]; simp)) ?_
            cases hgo2 : goOnB z ⟨1 + v6, x, y⟩ with
            | false =>
              refine iteT ?_
              refine ws_one (w1_expr (we_app (n := 1) (q := q) (ev 3) rfl (we_p (ev 7) ⟨_, rfl, by rw [List.length_map]; omega, ?_⟩)))
              refine ⟨ini ++ [z] ++ [⟨1 + v6, x, y⟩], k6, _, _, _, _, rfl, by rw [List.map_append (l₁ := ini ++ [z])]; rfl, by simp at hl ⊢; omega, by omega, ?_, goAll_snoc hgo (fun a ha => ?_), by omega⟩
              · intro s hs
                rcases List.mem_append.mp hs with hs | hs
                · exact hg s hs
                · rw [List.mem_singleton.mp hs]; exact hsg
              · rw [hlast] at ha
                rw [← Option.some.inj ha]
                exact hgo2
            | true =>
              refine iteF (ws_nil ?_)
              exact ⟨ini ++ [z], k6, _, _, _, _, rfl, rfl, by omega, by omega, hg, hgo, by omega⟩
      · rintro ρ' M' ⟨ss, k', x4, x5, x6, x7, rfl, rfl, hl, hi, hg, hgo, hk'⟩
        rw [rgD_len] at hl hi hk'
        refine ws_cons (w1_while PassesOwn.never (fun n ρ' M' => ∃ ss : List Sg, ρ' = [some (.adr pn), some (.int 3), some (frp r), some (.adr q), x4, x5, x6, x7] ∧ M' = [(pn, .pen k'), (q, .lst (ss.map Sg.d))] ∧ n = ss.length ∧ ss.length ≤ 3 ∧ (∀ s ∈ ss, GSg s) ∧ GoAll ss) _ ⟨ss, rfl, rfl, rfl, by omega, hg, hgo⟩ ?_)
        rintro n ρ' M' ⟨ss, rfl, rfl, rfl, hl, hg, hgo⟩
        have fin : (∀ s, ss.getLast? = some s → ¬ (s.first = r ∧ s.last = r)) → WS T (bX W "_law_tempo" N__law_tempo (defScope s__law_tempo) f cdv Ar outer s H E) ((defBody s__law_tempo).drop 4) [some (.adr pn), some (.int 3), some (frp r), some (.adr q), x4, x5, x6, x7] [(pn, .pen k'), (q, .lst (ss.map Sg.d))] { nx := fun _ _ => False, rt := fun d' M' => ∃ n' rest, M' = (pn, .pen n') :: rest ∧ Ψ d' n' } := by
          intro hend
          refine ws_freeze (n := 1) (ix := 3) rfl rfl ?_
          refine ws_one (w1_retp (ed_tup (ad_cons (ed_b (bd_tupleL Z.n_tuple) (by rfl) (ad_cons (ev 3) ad_nil)) (ad_cons (ev 2) ad_nil))) ⟨_, _, rfl, ?_⟩)
          exact g ⟨ss, r⟩ k' ⟨hl, hg, r1, r2, hgo, hend⟩ (by omega)
        refine wt_w ?_
        cases hlast : ss.getLast? with
        | none =>
          have e0 : ss = [] := by rw [List.getLast?_eq_none_iff] at hlast; exact hlast
          subst e0
          refine wt_view' (n := 1) (ix := 3) rfl rfl (t := false) (wd_andF (TD.is (td_neD (ev 3) (ed_lst ad_nil) (by exact cln_lnil) (by exact cln_lnil) hr.units) (by rw [eqD_nil]; simp))) ?_
          refine iteF (fin (by simp))
        | some z =>
          obtain ⟨ini, rfl⟩ : ∃ ini, ss = ini ++ [z] := List.getLast?_eq_some_iff.mp hlast
          refine wt_view' (n := 1) (ix := 3) rfl rfl (t := decide (z.first = r ∧ z.last = r)) (WD.is (wd_and (td_neD (ev 3) (ed_lst ad_nil) (by exact cln_sgs) (by exact cln_lnil) hr.units) fun hq => (wd_and1 (td_eqD (ed_slT (ed_ixL (ev 3) (ed_neg ed_int) (atI_last (f := Sg.d) (a := z) (by simp))) (od_some ed_int) od_none (by exact of_decide_eq_true rfl)) (ed_tup (ad_cons (ev 2) (ad_cons (ev 2) ad_nil))) (by exact (cln_cons cln_fr (cln_cons cln_fr cln_nil))) (by exact (cln_cons cln_fr (cln_cons cln_fr cln_nil))) hr.units))) ?_) ?_
          · rw [eqD_nil, show decide ((ini ++ [z]).map Sg.d = []) = false by simp]
            show (true && eqD (.tup [frp z.first, frp z.last]) (.tup [frp r, frp r])) = _
            rw [Bool.true_and]
            exact eqD_dec ⟨fun h => by
              have h := Dt.tup.inj h
              exact ⟨frp_inj.mp (List.cons.inj h).1, frp_inj.mp (List.cons.inj (List.cons.inj h).2).1⟩, fun h => by rw [h.1, h.2]⟩
          · by_cases hq : z.first = r ∧ z.last = r
            · rw [if_pos (decide_eq_true hq)]
              refine ws_one (w1_expr (we_pop (n := 1) (d := z.d) (ev 3) rfl (by simp) ?_))
              refine ⟨ini.length, by simp, ini, rfl, ?_, rfl, by simp at hl; omega, fun s hs => hg s (by simp [hs]), goAll_init hgo⟩
              show [(pn, MO.pen k'), (q, MO.lst _)] = _
              rw [List.map_append, List.map_singleton, List.dropLast_concat]
            · rw [if_neg (by simpa using hq)]
              refine fin (fun s hs => ?_)
              rw [hlast] at hs
              rw [← Option.some.inj hs]
              exact hq
theorem c__law_take (Z : En W) (A : At W "_law_take" s__law_take) (C__law_draw : CalP W T 1 "_law_draw" P__law_draw G__law_draw) : CalP W T 2 "_law_take" P__law_take G__law_take :=
  calP_of A sc__law_take bn__law_take fun f cdv Ar outer s H E pn k0 ds Ψ hr g hl => by
    obtain ⟨nm, rfl, hnm, hk, g⟩ := g
    refine ws_cons ?_
    refine w1_set (ix := 2) (hs := ?_) (hf := ?_) ?_ ?_ ?_ ?_
    case refine_2 => exact sc__law_take.nd
    case refine_3 => rfl
    case refine_4 => first | exact .inl rfl | exact .inr rfl
    case refine_5 => rfl
    case refine_6 => first | exact .inl rfl | exact .inr rfl
    refine we_ixL' ?_
    refine we_lst ?_
    refine wa_cons' ?_
    refine we_add' ?_
    refine we_p ed_int ?_
    refine we_pc C__law_draw (hr.mono (by decide)) (by rfl) (ad_cons (ev 0) (ad_cons ed_int ad_nil)) ⟨_, rfl, (by omega), (by omega), (by first | omega | (unfold mostDraws at *; omega)), fun v1 k1 a1 b1 c1 => ?_⟩
    refine ⟨_, _, rfl, rfl, ?_⟩
    refine wa_cons' ?_
    refine we_add' ?_
    refine we_p ed_int ?_
    refine we_pc C__law_draw (hr.mono (by decide)) (by rfl) (ad_cons (ev 0) (ad_cons ed_int ad_nil)) ⟨_, rfl, (by omega), (by omega), (by first | omega | (unfold mostDraws at *; omega)), fun v2 k2 a2 b2 c2 => ?_⟩
    refine ⟨_, _, rfl, rfl, ?_⟩
    refine wa_p (ad_cons ed_int ad_nil) ?_
    refine ⟨by exact Nat.le_of_ble_eq_true rfl, ?_⟩
    refine we_mul' ?_
    refine we_intB Z.n_int (by rfl) ?_
    refine we_eqI' ?_
    refine we_pc C__law_draw (hr.mono (by decide)) (by rfl) (ad_cons (ev 0) (ad_cons ed_int ad_nil)) ⟨_, rfl, (by omega), (by omega), (by first | omega | (unfold mostDraws at *; omega)), fun v3 k3 a3 b3 c3 => ?_⟩
    refine ⟨_, _, rfl, ed_int, ?_⟩
    refine ⟨_, rfl, ?_⟩
    refine we_p ed_int ?_
    refine ⟨_, _, rfl, rfl, (by right; decide), ?_⟩
    refine ⟨_, _, _, rfl, rfl, pickT, ?_⟩
    have hm : ∃ m : Nat, (m : Int) = (if decide (v3 = 0) = true then 40 else 1 + v1) ∧ 1 ≤ m ∧ m ≤ 40 := by
      refine ⟨(if decide (v3 = 0) = true then 40 else 1 + v1).toNat, ?_⟩
      split <;> omega
    obtain ⟨m, em, m1, m2⟩ := hm
    rw [← em]
    refine ws_cons ?_
    refine w1_set (ix := 3) (hs := ?_) (hf := ?_) ?_ ?_ ?_ ?_
    case refine_2 => exact sc__law_take.nd
    case refine_3 => rfl
    case refine_4 => first | exact .inl rfl | exact .inr rfl
    case refine_5 => rfl
    case refine_6 => first | exact .inl rfl | exact .inr rfl
    refine we_ixL' ?_
    refine we_p (ed_lst (ad_cons ed_int (ad_cons ed_int ad_nil))) ?_
    refine we_intB Z.n_int (by rfl) ?_
    refine we_eqI' ?_
    refine we_pc C__law_draw (hr.mono (by decide)) (by rfl) (ad_cons (ev 0) (ad_cons ed_int ad_nil)) ⟨_, rfl, (by omega), (by omega), (by first | omega | (unfold mostDraws at *; omega)), fun v4 k4 a4 b4 c4 => ?_⟩
    refine ⟨_, _, rfl, ed_int, ?_⟩
    refine ⟨_, rfl, ?_⟩
    refine ⟨_, _, _, rfl, rfl, pickB, ?_⟩
    have hf : ∃ w : Int, w = (if decide (v4 = 0) = true then 100000 else 9) ∧ 9 ≤ w ∧ w ≤ 100000 := by
      refine ⟨_, rfl, ?_⟩
      split <;> omega
    obtain ⟨far, ef, f1, f2⟩ := hf
    rw [← ef]
    refine ws_one (w1_ret ?_)
    refine we_tup ?_
    refine wa_cons' ?_
    refine we_p (ev 1) ?_
    refine wa_cons' ?_
    refine we_tupleL Z.n_tuple (by rfl) ?_
    refine we_lcP (xs := List.range m) (f := fun (i : Nat) => .int (0 + (i : Int))) (j := 4) (fun i acc k' => ∃ ns : List Int, acc = ns.map .int ∧ ns.length = i ∧ (∀ x ∈ ns, -100000 ≤ x ∧ x ≤ 100000) ∧ k' ≤ k4 + i) ?_ rfl sc__law_take.nd (by show BlkOk N__law_take (defScope s__law_take) _ _; exact blkOk_by (by decide +kernel)) (pgB sc__law_take.nd rfl rfl) (by rw [List.length_range]; omega) ?_ ?_
    · refine iw_rng1 (by rfl) Z.n_range (wa_p (ad_cons (ev 2) ad_nil) ⟨_, rfl, (by omega), (by omega), rfl, k4, rfl, [], rfl, rfl, by simp, by omega⟩)
    · rintro i a acc k' ha hai ⟨ns, rfl, hl, hns, hk'⟩ _ _ _ _ _
      have hi : i < m := by
        have h1 := (List.getElem?_eq_some_iff.mp ha).1
        rwa [List.length_range] at h1
      refine we_sub' ?_
      refine we_pc C__law_draw (hr.mono (by decide)) (by rfl) (ad_cons (ev 0) (ad_cons (ed_add (ed_mul ed_int (ev 3) (show Bt 2 2 by show (2 : Int).natAbs < 2 ^ 2; decide) (bt_of (n := 32) (by simp; omega) (by simp; omega))) ed_int) ad_nil)) ⟨_, rfl, (by omega), (by omega), (by first | omega | (unfold mostDraws at *; omega)), fun v5 k5 a5 b5 c5 => ?_⟩
      refine we_p (ev 3) ?_
      refine ⟨_, _, rfl, rfl, k5, rfl, ns ++ [v5 - far], by rw [List.map_append]; rfl, by rw [List.length_append, hl]; rfl, fun x hx => ?_, by omega⟩
      rcases List.mem_append.mp hx with hx | hx
      · exact hns x hx
      · rw [List.mem_singleton.mp hx]; omega
    · rintro acc k' hl ⟨ns, rfl, hl2, hns, hk'⟩
      rw [List.length_range] at hl2 hk'
      refine ⟨_, rfl, ?_⟩
      refine wa_nil ?_
      refine ⟨by exact Nat.le_of_ble_eq_true rfl, ?_⟩
      refine ⟨_, _, rfl, ?_⟩
      exact g ⟨nm, ns⟩ k' ⟨hnm, by show 1 ≤ ns.length; omega, by show ns.length ≤ 40; omega, hns⟩ rfl (by omega)
end
end BL
set_option maxHeartbeats 4000000
/-! defs of the law: corners, shape, piece -/
namespace BL
open PySem PySem.Spec PyProof.Rows L2 Evl
section
variable {T : Tb} {X : Cx} {ρ : Rho} {M : Mem} {es : List Expr} {pos : Pos}
theorem we_newLW {Ψ : Dt → Mem → Prop} (h : WA T X es ρ M fun ds M' => ds.length ≤ sizeLine ∧ ∀ q, Ψ (.adr q) (M' ++ [(q, .lst ds)])) : WE T X (.List es pos) ρ M Ψ := fun F H σ Q f s m kk =>
  PE_w (pe_lst pa_w) (h F H σ _ f s m fun vs ds M1 F1 H1 ⟨hl, k⟩ q1 r1 => ⟨by rw [r1.length]; exact hl, fun p hp =>
    kk _ _ _ _ _ (k p) (q1.trans (reach_new q1.fine q1.mem hp ⟨vs, upd_same, r1⟩)) (rp_adr.mpr rfl)⟩)
end
inductive R__law_plain : List Dt → Dt → Prop where
  | mk {cs : List Cr} (h : CsG cs) : R__law_plain [.lst (cs.map crD)] (spD (plainF cs))
def G__law_shape (ds : List Dt) (k : Nat) (Ψ : Dt → Nat → Prop) : Prop := ∃ m : Int, ds = [.int m] ∧ 1 ≤ m ∧ m ≤ 16 ∧ k + 800 ≤ mostDraws ∧ ∀ (s : Sp) (k' : Nat), GSp m s → k' ≤ k + 800 → Ψ (spD s) k'
def G__law_piece (ds : List Dt) (k : Nat) (Ψ : Dt → Nat → Prop) : Prop := ∃ (n : Int) (tk : Str), ds = [.int n, .str tk] ∧ 1 ≤ n ∧ n ≤ 99999 ∧ GN tk ∧ k + 900 ≤ mostDraws ∧ ∀ (p : Pc) (k' : Nat), GPc p → p.n = n → p.take = tk → k' ≤ k + 900 → Ψ p.d k'
theorem cut_one {cs : List Cr} (h : 2 ≤ cs.length) : cutD (cs.map crD) none (some 1) = (cs.take 1).map crD := by
  cases cs with
  | nil => simp at h
  | cons c cs =>
    unfold cutD HT.sIx
    simp only [List.map_cons, List.length_cons]
    rfl
theorem rng_at {n i a : Nat} (ha : (List.range n)[i]? = some a) : i < n ∧ a = i := by
  have h1 := (List.getElem?_eq_some_iff.mp ha).1
  rw [List.length_range] at h1
  rw [List.getElem?_range h1] at ha
  exact ⟨h1, (Option.some.inj ha).symm⟩
theorem low_lt1 {x : Fr} {s w : Int} (hw : 0 < w) (h : x.1 * w < s * x.2) : x.1 * (lowF s w).2 < (lowF s w).1 * x.2 := by
  obtain ⟨e1, e2⟩ := lowF_mul (t := s) hw
  have g := gcdI_pos (a := s) hw
  generalize (lowF s w).1 = t at *
  generalize (lowF s w).2 = b at *
  generalize gcdI s w = d at *
  subst e1 e2
  refine Int.lt_of_mul_lt_mul_right (a := d) ?_ (Int.le_of_lt g)
  rw [Int.mul_assoc, Int.mul_assoc, Int.mul_comm x.2 d, ← Int.mul_assoc t]
  exact h
theorem low_lt2 {s s' w : Int} (hw : 0 < w) (h : s < s') : (lowF s w).1 * w < s' * (lowF s w).2 := by
  obtain ⟨e1, e2⟩ := lowF_mul (t := s) hw
  have b0 := lowF_pos (t := s) hw
  generalize (lowF s w).1 = t at *
  generalize (lowF s w).2 = b at *
  generalize gcdI s w = d at *
  have e : t * w = s * b := by rw [← e1, ← e2, Int.mul_comm b d, Int.mul_assoc]
  rw [e]
  exact Int.mul_lt_mul_of_pos_right h b0
def UpC (cs : List Cr) : Prop := ∀ i j, i < j → j < cs.length → ltC (crAt cs i) (crAt cs j)
theorem up_snoc {cs : List Cr} {z : Cr} (h : UpC cs) (k : ∀ c ∈ cs, ltC c z) : UpC (cs ++ [z]) := by
  intro i j hij hj
  rw [List.length_append, List.length_singleton] at hj
  by_cases h1 : j < cs.length
  · rw [crAt_snoc_l (by omega), crAt_snoc_l h1]; exact h i j hij h1
  · have e : j = cs.length := by omega
    rw [e, crAt_snoc, crAt_snoc_l (by omega)]
    exact k _ (crAt_mem (by omega))
def partsL : List Int := [1, 1, 2, 3, 7]
theorem parts_ok : ∀ w ∈ partsL, w = 1 ∨ w = 2 ∨ w = 3 ∨ w = 7 := by decide
def atsL : List Int := [20, 20, 60]
theorem ats_ok {v : Int} (a : 0 ≤ v) (b : v < 3) : 0 < atsL.getD v.toNat 0 ∧ atsL.getD v.toNat 0 ≤ 60 := by
  have h : ∀ w ∈ atsL, 0 < w ∧ w ≤ 60 := by decide
  exact h _ (getD_memI (ss := atsL) a b)
def mansL : List Int := [6, 16]
theorem mans_ok {v : Int} (a : 0 ≤ v) (b : v < 2) : 0 < mansL.getD v.toNat 0 ∧ mansL.getD v.toNat 0 ≤ 16 := by
  have h : ∀ w ∈ mansL, 0 < w ∧ w ≤ 16 := by decide
  exact h _ (getD_memI (ss := mansL) a b)
def waysL : List Str := ["free", "bound"]
theorem ways_ok {v : Int} (a : 0 ≤ v) (b : v < 2) : waysL.getD v.toNat "" = "free" ∨ waysL.getD v.toNat "" = "bound" := by
  have h : ∀ w ∈ waysL, w = "free" ∨ w = "bound" := by simp [waysL]
  exact h _ (getD_memS (ss := waysL) a b)
theorem h4b : Bt 3 4 := by show (4 : Int).natAbs < 2 ^ 3; decide
section
variable {W : Wo} {T : Tb}
theorem c__law_plain (Z : En W) (A : At W "_law_plain" s__law_plain) (C__law_div : Cal W T 2 "_law_div" P__law_div R__law_div) (C__law_sub : Cal W T 2 "_law_sub" P__law_sub R__law_sub) : Cal W T 3 "_law_plain" P__law_plain R__law_plain :=
  cal_of A sc__law_plain bn__law_plain fun f cdv Ar outer s H E ds d hr g hl => by
    cases g with | @mk cs h =>
    have l1 := h.l1
    have l2 := h.l2
    refine ws_cons (w1_newListOf (ix := 1) (ED.is (ed_slL (ev 0) od_none (od_some ed_int)) (congrArg Dt.lst (cut_one l1))) (fun q => ?_) Z.n_list (by rfl) sc__law_plain.nd rfl (.inl rfl))
    refine ws_for (xs := List.range (cs.length - 1)) (f := fun (i : Nat) => .int (1 + (i : Int))) (fun _ => [some (.lst (cs.map crD)), some (.adr q), none, none, none, none, none, none]) (fun i M' => M' = [(q, .lst ((plainAt cs i).map crD))]) rfl (tg_n (j := 2) sc__law_plain.nd rfl (.inl rfl)) ⟨rfl, rfl, trivial⟩ (iw_rng2 (by rfl) Z.n_range (wa_p (ad_cons ed_int (ad_cons (ed_b (bd_lenL Z.n_len) (by rfl) (ad_cons (ev 0) ad_nil)) ad_nil)) ⟨_, _, rfl, (by rw [List.length_map]; omega), (by rw [show ((((cs.map crD).length : Nat) : Int) - 1).toNat = cs.length - 1 by rw [List.length_map]; omega]; rfl), rfl⟩)) ?_ ?_
    · rintro i a M' ha rfl
      obtain ⟨hi, rfl⟩ := rng_at ha
      have pi := pi_at h a (by omega)
      obtain ⟨j, hj, ej⟩ := pi.la
      have gk := h.cr _ (crAt_mem (show a + 1 < cs.length by omega))
      have gj := h.cr _ (crAt_mem (show j < cs.length by omega))
      have ujk := h.up j (a + 1) hj (by omega)
      have el : (plainAt cs a)[(plainAt cs a).length - 1]? = some (crAt cs j) := by rw [crAt_at (by have := pi.l1; omega), ej]
      have es : plainAt cs (a + 1) = plainStep cs (plainAt cs a) (a + 1) := rfl
      have lf := pi.l2
      rw [es]
      unfold plainStep
      rw [ej]
      generalize plainAt cs a = fs at *
      refine ⟨_, rfl, ?_⟩
      refine ws_cons (w1_setp (ix := 3) ed_bl ?_ (by exact sc__law_plain.nd) (by rfl) (by first | exact .inl rfl | exact .inr rfl))
      refine ws_mid (fun ρ' M' => ∃ (b : Bool) (x4 x5 x6 x7 : Option Dt), ρ' = [some (.lst (cs.map crD)), some (.adr q), some (.int (1 + (a : Int))), some (.bl b), x4, x5, x6, x7] ∧ M' = [(q, .lst (fs.map crD))] ∧ (b = true ↔ (a + 1 + 1 < cs.length ∧ slp (crAt cs j) (crAt cs (a + 1)) = slp (crAt cs (a + 1)) (crAt cs (a + 1 + 1))))) ?_ ?_
      · by_cases hk : a + 1 + 1 < cs.length
        · have gn := h.cr _ (crAt_mem hk)
          have ukn := h.up (a + 1) (a + 1 + 1) (by omega) hk
          refine w1_ifT (TD.is (td_k kd_lt (ed_add (ev 2) ed_int) (ed_b (bd_lenL Z.n_len) (by rfl) (ad_cons (ev 0) ad_nil))) (decide_eq_true (by rw [List.length_map]; omega))) ?_
          refine ws_cons ?_
          refine w1_par (i := 4) (j := 5) (hs := ?_) ?_ ?_ ?_ ?_ ?_ ?_ ?_ ?_ ?_
          case refine_2 => rfl
          case refine_3 => exact sc__law_plain.nd
          case refine_4 => rfl
          case refine_5 => rfl
          case refine_6 => decide
          case refine_7 => rfl
          case refine_8 => rfl
          case refine_9 => rfl
          case refine_10 => rfl
          refine wa_cons' ?_
          refine we_view (n := 0) (ix := 1) rfl rfl (ed_ixL (ev 1) (ed_neg ed_int) (atI_last (f := crD) el)) (by rfl) ?_
          refine wa_p (ad_cons (ed_ixL (ev 0) (ev 2) (atI_map (f := crD) (j := a + 1) (by omega) (crAt_at (by omega)))) ad_nil) ?_
          refine ⟨_, _, rfl, ?_⟩
          refine ws_cons (w1_setp (ix := 6) (ed_ixL (ev 0) (ed_add (ev 2) ed_int) (atI_map (f := crD) (j := a + 1 + 1) (by omega) (crAt_at hk))) ?_ (by exact sc__law_plain.nd) (by rfl) (by first | exact .inl rfl | exact .inr rfl))
          refine ws_cons (w1_setp (ix := 7) (ed_call C__law_div (hr.mono (by decide)) (by rfl) (ad_cons (ed_call C__law_sub (hr.mono (by decide)) (by rfl) (ad_cons (ed_ixT (ev 5) ed_int rfl) (ad_cons (ed_ixT (ev 4) ed_int rfl) ad_nil)) (.mk gk.2.2.1.fb gj.2.2.1.fb (by decide))) (ad_cons (ed_call C__law_sub (hr.mono (by decide)) (by rfl) (ad_cons (ed_ixT (ev 5) ed_int rfl) (ad_cons (ed_ixT (ev 4) ed_int rfl) ad_nil)) (.mk gk.1.fb gj.1.fb (by decide))) ad_nil)) (.mk (minusF_fb gk.2.2.1.fb gj.2.2.1.fb) (minusF_fb gk.1.fb gj.1.fb) (run_pos gj gk ujk) (by decide))) ?_ (by exact sc__law_plain.nd) (by rfl) (by first | exact .inl rfl | exact .inr rfl))
          refine ws_one (w1_setp (ix := 3) (ed_eqD (ev 7) (ed_call C__law_div (hr.mono (by decide)) (by rfl) (ad_cons (ed_call C__law_sub (hr.mono (by decide)) (by rfl) (ad_cons (ed_ixT (ev 6) ed_int rfl) (ad_cons (ed_ixT (ev 5) ed_int rfl) ad_nil)) (.mk gn.2.2.1.fb gk.2.2.1.fb (by decide))) (ad_cons (ed_call C__law_sub (hr.mono (by decide)) (by rfl) (ad_cons (ed_ixT (ev 6) ed_int rfl) (ad_cons (ed_ixT (ev 5) ed_int rfl) ad_nil)) (.mk gn.1.fb gk.1.fb (by decide))) ad_nil)) (.mk (minusF_fb gn.2.2.1.fb gk.2.2.1.fb) (minusF_fb gn.1.fb gk.1.fb) (run_pos gk gn ukn) (by decide))) (by exact cln_fr) (by exact cln_fr) hr.units) ?_ sc__law_plain.nd rfl (.inl rfl))
          refine ⟨_, _, _, _, _, rfl, rfl, ?_⟩
          rw [eqD_fr, decide_eq_true_iff]
          exact ⟨fun z => ⟨hk, z⟩, fun z => z.2⟩
        · exact w1_ifF (TD.is (td_k kd_lt (ed_add (ev 2) ed_int) (ed_b (bd_lenL Z.n_len) (by rfl) (ad_cons (ev 0) ad_nil))) (decide_eq_false (by rw [List.length_map]; omega))) (ws_nil ⟨false, _, _, _, _, rfl, rfl, ⟨(fun z => by cases z), (fun z => absurd z.1 hk)⟩⟩)
      · rintro ρ' M' ⟨b, x4, x5, x6, x7, rfl, rfl, hb⟩
        refine ws_one (w1_ifp (td_not (td_val (ev 3))) (fun ht => ?_) fun ht => ?_)
        · rw [if_neg (fun z => by rw [hb.mpr z] at ht; cases ht)]
          refine ws_one (w1_expr (we_app (n := 0) (q := q) (ev 1) rfl (we_p (ed_ixL (ev 0) (ev 2) (atI_map (f := crD) (j := a + 1) (by omega) (crAt_at (by omega)))) ⟨_, rfl, by rw [List.length_map]; omega, ?_⟩)))
          refine ⟨⟨rfl, rfl, trivial⟩, ?_⟩
          rw [List.map_append]
          rfl
        · rw [if_pos (hb.mp (by simpa using ht))]
          exact ws_nil ⟨⟨rfl, rfl, trivial⟩, rfl⟩
    · rintro M' rfl
      rw [List.length_range]
      refine ws_freeze (n := 0) (ix := 1) rfl rfl ?_
      refine ws_one (w1_retp (ed_b (bd_tupleL Z.n_tuple) (by rfl) (ad_cons (ev 1) ad_nil)) rfl)
theorem c__law_shape (Z : En W) (A : At W "_law_shape" s__law_shape) (C__law_plain : Cal W T 3 "_law_plain" P__law_plain R__law_plain) (C__law_draw : CalP W T 1 "_law_draw" P__law_draw G__law_draw) (C__law_from : CalP W T 3 "_law_from" P__law_from G__law_from) (C__law_low : Cal W T 1 "_law_low" P__law_low R__law_low) : CalP W T 4 "_law_shape" P__law_shape G__law_shape :=
  calP_of A sc__law_shape bn__law_shape fun f cdv Ar outer s H E pn k0 ds Ψ hr g hl => by
    obtain ⟨m, rfl, hm1, hm2, hk, g⟩ := g
    refine ws_cons ?_
    refine w1_set (ix := 2) (hs := ?_) (hf := ?_) ?_ ?_ ?_ ?_
    case refine_2 => exact sc__law_shape.nd
    case refine_3 => rfl
    case refine_4 => first | exact .inl rfl | exact .inr rfl
    case refine_5 => rfl
    case refine_6 => first | exact .inl rfl | exact .inr rfl
    refine we_ixL' ?_
    refine we_p (ed_lst (ad_cons ed_int (ad_cons ed_int (ad_cons ed_int (ad_cons ed_int (ad_cons ed_int ad_nil)))))) ?_
    refine we_pc C__law_draw (hr.mono (by decide)) (by rfl) (ad_cons (ev 0) (ad_cons ed_int ad_nil)) ⟨_, rfl, (by omega), (by omega), (by first | omega | (unfold mostDraws at *; omega)), fun v1 k1 a1 b1 c1 => ?_⟩
    refine ⟨_, _, _, rfl, rfl, (atI_li (f := Dt.int) (ss := partsL) a1 b1), ?_⟩
    have hp := parts_ok _ (getD_memI (ss := partsL) a1 b1)
    generalize partsL.getD v1.toNat 0 = w at *
    have hw : 1 ≤ w ∧ w ≤ 7 := by omega
    have hmw : 1 ≤ m * w ∧ m * w ≤ 112 := by rcases hp with rfl | rfl | rfl | rfl <;> omega
    have bm : Bt 8 m := bt_of (by simp; omega) (by simp; omega)
    have bw : Bt 8 w := bt_of (by simp; omega) (by simp; omega)
    refine ws_cons ?_
    refine w1_set (ix := 3) (hs := ?_) (hf := ?_) ?_ ?_ ?_ ?_
    case refine_2 => exact sc__law_shape.nd
    case refine_3 => rfl
    case refine_4 => first | exact .inl rfl | exact .inr rfl
    case refine_5 => rfl
    case refine_6 => first | exact .inl rfl | exact .inr rfl
    refine we_newLW ?_
    refine wa_cons' ?_
    refine we_tup ?_
    refine wa_cons' ?_
    refine we_p (ed_tup (ad_cons ed_int (ad_cons ed_int ad_nil))) ?_
    refine wa_cons' ?_
    refine we_pc C__law_from (hr.mono (by decide)) (by rfl) (ad_cons (ev 0) ad_nil) ⟨rfl, by omega, fun y0 k2 y1 y2 y3 => ?_⟩
    refine wa_p ad_nil ?_
    refine ⟨by exact Nat.le_of_ble_eq_true rfl, ?_⟩
    refine wa_p ad_nil ?_
    refine ⟨by exact Nat.le_of_ble_eq_true rfl, ?_⟩
    intro q
    have c0 : CrG ((0, 1), y0) := ⟨⟨as_fb (bt32 (by decide) (by decide)) (by decide), as_fv⟩, Int.le_refl 0, y1, y2⟩
    refine ws_for (xs := List.range (m * w - 1).toNat) (f := fun (i : Nat) => .int (1 + (i : Int))) (fun _ => [some (.adr pn), some (.int m), some (.int w), some (.adr q), none]) (fun i M' => ∃ (cs : List Cr) (k' : Nat), M' = [(pn, .pen k'), (q, .lst (cs.map crD))] ∧ 1 ≤ cs.length ∧ cs.length ≤ 11 ∧ (∀ c ∈ cs, CrG c) ∧ UpC cs ∧ (crAt cs 0).1 = (0, 1) ∧ (∀ c ∈ cs, c.1.1 * w < (1 + (i : Int)) * c.1.2) ∧ k' ≤ k0 + 6 + 6 * i) rfl (tg_n (j := 4) sc__law_shape.nd rfl (.inl rfl)) ⟨rfl, rfl, rfl, rfl, trivial⟩ (iw_rng2 (by rfl) Z.n_range (wa_p (ad_cons ed_int (ad_cons (ed_mul (ev 1) (ev 2) bm bw) ad_nil)) ⟨_, _, rfl, (by omega), rfl, ?_⟩)) ?_ ?_
    · refine ⟨[((0, 1), y0)], k2, rfl, by simp, by simp, fun c hc => ?_, fun i j hij hj => ?_, rfl, fun c hc => ?_, by omega⟩
      · rw [List.mem_singleton.mp hc]; exact c0
      · simp at hj; omega
      · rw [List.mem_singleton.mp hc]; show 0 * w < (1 + ((0 : Nat) : Int)) * 1; omega
    · rintro i a M' ha ⟨cs, k', rfl, l1, l2, hcr, hup, hhd, hlt, hk'⟩
      obtain ⟨hi, rfl⟩ := rng_at ha
      refine ⟨_, rfl, ?_⟩
      refine ws_one (w1_if (wt_w (ww_and ?_)))
      refine wt_view (n := 1) (ix := 3) rfl rfl (td_k kd_lt (ed_b (bd_lenL Z.n_len) (by rfl) (ad_cons (ev 3) ad_nil)) ed_int) ?_
      have hlt' : ∀ c ∈ cs, c.1.1 * w < (1 + ((a + 1 : Nat) : Int)) * c.1.2 := fun c hc => by
        have h1 := hlt c hc
        have h2 := (hcr c hc).1.pos
        rw [show (1 + ((a + 1 : Nat) : Int)) = (1 + (a : Int)) + 1 by omega, Int.add_mul]
        omega
      by_cases hc : (((cs.map crD).length : Nat) : Int) < 11
      · rw [if_pos (decide_eq_true hc)]
        rw [List.length_map] at hc
        refine ww_and1 (wt_eqI' ?_)
        refine we_pc C__law_draw (hr.mono (by decide)) (by rfl) (ad_cons (ev 0) (ad_cons (ed_add ed_int (ed_fdiv (ed_mul (ev 1) (ev 2) bm bw) ed_int (by decide) h4b)) ad_nil)) ⟨_, rfl, (by omega), (by omega), (by first | omega | (unfold mostDraws at *; omega)), fun v2 k3 a2 b2 c2 => ?_⟩
        refine ⟨v2, 0, rfl, ed_int, ?_⟩
        by_cases hv : v2 = 0
        · rw [if_pos (decide_eq_true hv)]
          refine ws_one (w1_expr ?_)
          refine we_app (n := 1) (q := q) (ev 3) rfl ?_
          refine we_tup ?_
          refine wa_cons' ?_
          refine we_p (ed_call C__law_low (hr.mono (by decide)) (by rfl) (ad_cons (ev 4) (ad_cons (ev 2) ad_nil)) (R__law_low.mk (n := 32) (by omega) (bt32 (by omega) (by omega)) (by decide))) ?_
          refine wa_cons' ?_
          refine we_pc C__law_from (hr.mono (by decide)) (by rfl) (ad_cons (ev 0) ad_nil) ⟨rfl, by omega, fun z0 k4 z1 z2 z3 => ?_⟩
          refine wa_p ad_nil ?_
          refine ⟨by exact Nat.le_of_ble_eq_true rfl, ?_⟩
          refine ⟨_, rfl, by rw [List.length_map]; omega, ?_⟩
          have gz : CrG (lowF (1 + (a : Int)) w, z0) := ⟨low_gf (by omega) (bt32 (by omega) (by omega)) (bt32 (by omega) (by omega)), low_nn (by omega) (by omega), z1, z2⟩
          refine ⟨⟨rfl, rfl, rfl, rfl, trivial⟩, cs ++ [(lowF (1 + (a : Int)) w, z0)], k4, by rw [List.map_append]; rfl, by rw [List.length_append]; omega, by rw [List.length_append, List.length_singleton]; omega, fun c hcm => ?_, up_snoc hup (fun c hcm => low_lt1 (by omega) (hlt c hcm)), by rw [crAt_snoc_l (by omega)]; exact hhd, fun c hcm => ?_, by omega⟩
          · rcases List.mem_append.mp hcm with hcm | hcm
            · exact hcr c hcm
            · rw [List.mem_singleton.mp hcm]; exact gz
          · rcases List.mem_append.mp hcm with hcm | hcm
            · exact hlt' c hcm
            · rw [List.mem_singleton.mp hcm]; exact low_lt2 (by omega) (by omega)
        · rw [if_neg (by simpa using hv)]
          exact ws_nil ⟨⟨rfl, rfl, rfl, rfl, trivial⟩, cs, k3, rfl, l1, l2, hcr, hup, hhd, hlt', by omega⟩
      · rw [if_neg (by simpa using hc)]
        exact iteF (ws_nil ⟨⟨rfl, rfl, rfl, rfl, trivial⟩, cs, k', rfl, l1, l2, hcr, hup, hhd, hlt', by omega⟩)
    · rintro M' ⟨cs, k', rfl, l1, l2, hcr, hup, hhd, hlt, hk'⟩
      rw [List.length_range] at hlt hk'
      refine ws_cons (w1_expr ?_)
      refine we_app (n := 1) (q := q) (ev 3) rfl ?_
      refine we_tup ?_
      refine wa_cons' ?_
      refine we_p (ed_tup (ad_cons (ev 1) (ad_cons ed_int ad_nil))) ?_
      refine wa_cons' ?_
      refine we_pc C__law_from (hr.mono (by decide)) (by rfl) (ad_cons (ev 0) ad_nil) ⟨rfl, by omega, fun z0 k4 z1 z2 z3 => ?_⟩
      refine wa_p ad_nil ?_
      refine ⟨by exact Nat.le_of_ble_eq_true rfl, ?_⟩
      refine ⟨_, rfl, by rw [List.length_map]; omega, ?_⟩
      refine ws_freeze (n := 1) (ix := 3) (ds := (cs ++ [((m, 1), z0)]).map crD) (by rw [List.map_append]; rfl) rfl ?_
      have gz : CrG ((m, 1), z0) := ⟨⟨as_fb (bt32 (by omega) (by omega)) (by decide), as_fv⟩, by show 0 ≤ m; omega, z1, z2⟩
      have hcs : CsG (cs ++ [((m, 1), z0)]) := by
        refine ⟨by rw [List.length_append, List.length_singleton]; omega, by rw [List.length_append, List.length_singleton]; omega, fun c hcm => ?_, up_snoc hup (fun c hcm => ?_)⟩
        · rcases List.mem_append.mp hcm with hcm | hcm
          · exact hcr c hcm
          · rw [List.mem_singleton.mp hcm]; exact gz
        · have h1 := hlt c hcm
          have h2 := (hcr c hcm).1.pos
          rw [show (1 + (((m * w - 1).toNat : Nat) : Int)) = m * w by omega] at h1
          show c.1.1 * 1 < m * c.1.2
          rw [Int.mul_one]
          refine Int.lt_of_mul_lt_mul_right (a := w) ?_ (by omega)
          rw [Int.mul_assoc, Int.mul_comm c.1.2 w, ← Int.mul_assoc]
          exact h1
      refine ws_one (w1_retp (ed_call C__law_plain (hr.mono (by decide)) (by rfl) (ad_cons (ev 3) ad_nil) (.mk hcs)) ⟨_, _, rfl, ?_⟩)
      refine g _ k4 (plain_good hcs (by rw [crAt_snoc_l (by omega)]; exact hhd) (by rw [List.length_append, List.length_singleton, Nat.add_sub_cancel, crAt_snoc])) (by omega)
theorem c__law_piece (Z : En W) (A : At W "_law_piece" s__law_piece) (C__law_low : Cal W T 1 "_law_low" P__law_low R__law_low) (C__law_draw : CalP W T 1 "_law_draw" P__law_draw G__law_draw) (C__law_shape : CalP W T 4 "_law_shape" P__law_shape G__law_shape) : CalP W T 5 "_law_piece" P__law_piece G__law_piece :=
  calP_of A sc__law_piece bn__law_piece fun f cdv Ar outer s H E pn k0 ds Ψ hr g hl => by
    obtain ⟨n, tk, rfl, hn1, hn2, htk, hk, g⟩ := g
    refine ws_cons ?_
    refine w1_par (i := 3) (j := 4) (hs := ?_) ?_ ?_ ?_ ?_ ?_ ?_ ?_ ?_ ?_
    case refine_2 => rfl
    case refine_3 => exact sc__law_piece.nd
    case refine_4 => rfl
    case refine_5 => rfl
    case refine_6 => decide
    case refine_7 => rfl
    case refine_8 => rfl
    case refine_9 => rfl
    case refine_10 => rfl
    refine wa_cons' ?_
    refine we_callP C__law_draw (hr.mono (by decide)) (by rfl) ?_
    refine wa_cons' ?_
    refine we_p (ev 0) ?_
    refine wa_cons' ?_
    refine we_ixL' ?_
    refine we_p (ed_lst (ad_cons ed_int (ad_cons ed_int (ad_cons ed_int ad_nil)))) ?_
    refine we_pc C__law_draw (hr.mono (by decide)) (by rfl) (ad_cons (ev 0) (ad_cons ed_int ad_nil)) ⟨_, rfl, (by omega), (by omega), (by first | omega | (unfold mostDraws at *; omega)), fun v1 k1 a1 b1 c1 => ?_⟩
    refine ⟨_, _, _, rfl, rfl, (atI_li (f := Dt.int) (ss := atsL) a1 b1), ?_⟩
    refine wa_p ad_nil ?_
    refine ⟨_, _, _, _, rfl, rfl, rfl, ⟨_, rfl, (ats_ok a1 b1).1, (by have := (ats_ok a1 b1).2; omega), (by first | omega | (unfold mostDraws at *; omega)), fun u1 k11 a11 b11 c11 => ?_⟩⟩
    refine wa_cons' ?_
    refine we_add' ?_
    refine we_p ed_int ?_
    refine we_callP C__law_draw (hr.mono (by decide)) (by rfl) ?_
    refine wa_cons' ?_
    refine we_p (ev 0) ?_
    refine wa_cons' ?_
    refine we_ixL' ?_
    refine we_p (ed_lst (ad_cons ed_int (ad_cons ed_int ad_nil))) ?_
    refine we_pc C__law_draw (hr.mono (by decide)) (by rfl) (ad_cons (ev 0) (ad_cons ed_int ad_nil)) ⟨_, rfl, (by omega), (by omega), (by first | omega | (unfold mostDraws at *; omega)), fun v2 k2 a2 b2 c2 => ?_⟩
    refine ⟨_, _, _, rfl, rfl, (atI_li (f := Dt.int) (ss := mansL) a2 b2), ?_⟩
    refine wa_p ad_nil ?_
    refine ⟨_, _, _, _, rfl, rfl, rfl, ⟨_, rfl, (mans_ok a2 b2).1, (by have := (mans_ok a2 b2).2; omega), (by first | omega | (unfold mostDraws at *; omega)), fun u2 k12 a12 b12 c12 => ?_⟩⟩
    refine ⟨_, _, rfl, rfl, ?_⟩
    refine wa_p ad_nil ?_
    refine ⟨_, _, rfl, ?_⟩
    have h1 := (ats_ok a1 b1).2
    have h2 := (mans_ok a2 b2).2
    generalize atsL.getD v1.toNat 0 = w1 at *
    generalize mansL.getD v2.toNat 0 = w2 at *
    refine ws_cons ?_
    refine w1_set (ix := 5) (hs := ?_) (hf := ?_) ?_ ?_ ?_ ?_
    case refine_2 => exact sc__law_piece.nd
    case refine_3 => rfl
    case refine_4 => first | exact .inl rfl | exact .inr rfl
    case refine_5 => rfl
    case refine_6 => first | exact .inl rfl | exact .inr rfl
    refine we_ixL' ?_
    refine we_lst ?_
    refine wa_cons' ?_
    refine we_p (ed_tup (ad_cons ed_int (ad_cons ed_int ad_nil))) ?_
    refine wa_cons' ?_
    refine we_p (ed_tup (ad_cons ed_int (ad_cons ed_int ad_nil))) ?_
    refine wa_cons' ?_
    refine we_call C__law_low (hr.mono (by decide)) (by rfl) ?_
    refine wa_cons' ?_
    refine we_pc C__law_draw (hr.mono (by decide)) (by rfl) (ad_cons (ev 0) (ad_cons ed_int ad_nil)) ⟨_, rfl, (by omega), (by omega), (by first | omega | (unfold mostDraws at *; omega)), fun v3 k3 a3 b3 c3 => ?_⟩
    refine wa_cons' ?_
    refine we_add' ?_
    refine we_p ed_int ?_
    refine we_pc C__law_draw (hr.mono (by decide)) (by rfl) (ad_cons (ev 0) (ad_cons ed_int ad_nil)) ⟨_, rfl, (by omega), (by omega), (by first | omega | (unfold mostDraws at *; omega)), fun v4 k4 a4 b4 c4 => ?_⟩
    refine ⟨_, _, rfl, rfl, ?_⟩
    refine wa_p ad_nil ?_
    refine ⟨rfl, _, (R__law_low.mk (n := 32) (by omega) (bt32 (by omega) (by omega)) (by decide)), ?_⟩
    refine wa_p ad_nil ?_
    refine ⟨by exact Nat.le_of_ble_eq_true rfl, ?_⟩
    refine we_pc C__law_draw (hr.mono (by decide)) (by rfl) (ad_cons (ev 0) (ad_cons ed_int ad_nil)) ⟨_, rfl, (by omega), (by omega), (by first | omega | (unfold mostDraws at *; omega)), fun v5 k5 a5 b5 c5 => ?_⟩
    refine ⟨_, _, _, rfl, rfl, (pick3F (x := (0, 1)) (y := (0, 1)) a5 b5), ?_⟩
    have hst : ∃ y : Fr, y = (if v5 = 0 then (0, 1) else if v5 = 1 then (0, 1) else lowF v3 (1 + v4)) ∧ Gf 32 y ∧ 0 ≤ y.1 := by
      have g0 : Gf 32 ((0, 1) : Fr) ∧ 0 ≤ ((0, 1) : Fr).1 := ⟨⟨as_fb (bt32 (by decide) (by decide)) (by decide), as_fv⟩, Int.le_refl 0⟩
      refine ⟨_, rfl, ?_⟩
      split
      · exact g0
      · split
        · exact g0
        · exact ⟨low_gf (by omega) (bt32 (by omega) (by omega)) (bt32 (by omega) (by omega)), low_nn (by omega) (by omega)⟩
    obtain ⟨st, est, st1, st2⟩ := hst
    rw [← est]
    clear est
    refine ws_cons ?_
    refine w1_set (ix := 6) (hs := ?_) (hf := ?_) ?_ ?_ ?_ ?_
    case refine_2 => exact sc__law_piece.nd
    case refine_3 => rfl
    case refine_4 => first | exact .inl rfl | exact .inr rfl
    case refine_5 => rfl
    case refine_6 => first | exact .inl rfl | exact .inr rfl
    refine we_call C__law_low (hr.mono (by decide)) (by rfl) ?_
    refine wa_cons' ?_
    refine we_add' ?_
    refine we_p ed_int ?_
    refine we_pc C__law_draw (hr.mono (by decide)) (by rfl) (ad_cons (ev 0) (ad_cons ed_int ad_nil)) ⟨_, rfl, (by omega), (by omega), (by first | omega | (unfold mostDraws at *; omega)), fun v6 k6 a6 b6 c6 => ?_⟩
    refine ⟨_, _, rfl, rfl, ?_⟩
    refine wa_cons' ?_
    refine we_add' ?_
    refine we_p ed_int ?_
    refine we_pc C__law_draw (hr.mono (by decide)) (by rfl) (ad_cons (ev 0) (ad_cons ed_int ad_nil)) ⟨_, rfl, (by omega), (by omega), (by first | omega | (unfold mostDraws at *; omega)), fun v7 k7 a7 b7 c7 => ?_⟩
    refine ⟨_, _, rfl, rfl, ?_⟩
    refine wa_p ad_nil ?_
    refine ⟨rfl, _, (R__law_low.mk (n := 32) (by omega) (bt32 (by omega) (by omega)) (by decide)), ?_⟩
    have sp1 : Gf 32 (lowF (1 + v6) (1 + v7)) := low_gf (by omega) (bt32 (by omega) (by omega)) (bt32 (by omega) (by omega))
    have sp2 := low_ps (t := 1 + v6) (b := 1 + v7) (by omega) (by omega)
    generalize lowF (1 + v6) (1 + v7) = sp at *
    refine ws_cons ?_
    refine w1_set (ix := 7) (hs := ?_) (hf := ?_) ?_ ?_ ?_ ?_
    case refine_2 => exact sc__law_piece.nd
    case refine_3 => rfl
    case refine_4 => first | exact .inl rfl | exact .inr rfl
    case refine_5 => rfl
    case refine_6 => first | exact .inl rfl | exact .inr rfl
    refine we_ixL' ?_
    refine we_p (ed_lst (ad_cons ed_str (ad_cons ed_str ad_nil))) ?_
    refine we_pc C__law_draw (hr.mono (by decide)) (by rfl) (ad_cons (ev 0) (ad_cons ed_int ad_nil)) ⟨_, rfl, (by omega), (by omega), (by first | omega | (unfold mostDraws at *; omega)), fun v8 k8 a8 b8 c8 => ?_⟩
    refine ⟨_, _, _, rfl, rfl, (atI_ls (f := Dt.str) (ss := waysL) a8 b8), ?_⟩
    have hwy := ways_ok a8 b8
    generalize waysL.getD v8.toNat "" = wy at *
    refine ws_one (w1_ret ?_)
    refine we_tup ?_
    refine wa_cons' ?_
    refine we_p (ev 1) ?_
    refine wa_cons' ?_
    refine we_p (ev 2) ?_
    refine wa_cons' ?_
    refine we_p (ev 3) ?_
    refine wa_cons' ?_
    refine we_p (ev 4) ?_
    refine wa_cons' ?_
    refine we_p (ev 7) ?_
    refine wa_cons' ?_
    refine we_p (ev 5) ?_
    refine wa_cons' ?_
    refine we_p (ev 6) ?_
    refine wa_cons' ?_
    refine we_pc C__law_shape (hr.mono (by decide)) (by rfl) (ad_cons (ev 0) (ad_cons (ev 4) ad_nil)) ⟨1 + u2, rfl, by omega, by omega, by omega, fun sh k9 s1 s2 => ?_⟩
    refine wa_p ad_nil ?_
    refine ⟨by exact Nat.le_of_ble_eq_true rfl, ?_⟩
    refine ⟨_, _, rfl, ?_⟩
    exact g ⟨n, tk, u1, 1 + u2, wy, st, sp, sh⟩ k9 ⟨hn1, hn2, htk, a11, by show u1 ≤ 60; omega, by show 1 ≤ 1 + u2; omega, by show 1 + u2 ≤ 16; omega, hwy, st1, st2, sp1, sp2, s1⟩ rfl rfl (by omega)
end
end BL
set_option maxHeartbeats 4000000
/-! defs of the law: the sheet -/
namespace BL
open PySem PySem.Spec PyProof.Rows L2 Evl
theorem gn_ok {x : Str} (h : GN x) : PyData.strOk x = true := by
  show x.cps.all (· < 0x110000) = true
  rw [← Array.all_toList, List.all_eq_true]
  intro c hc
  have := h.low c hc
  simp only [isLow, Bool.and_eq_true, decide_eq_true_eq] at this
  simp only [decide_eq_true_eq]
  omega
theorem cln_ok {n : Nat} {a : Str} (h : PyData.strOk a = true) : Cln n (.str a) := by cases n <;> exact h
theorem cln_gn {n : Nat} {a : Str} (h : GN a) : Cln n (.str a) := cln_ok (gn_ok h)
theorem cln_strs {n : Nat} {xs : List Str} (h : ∀ x ∈ xs, GN x) : Cln (n + 1) (.lst (xs.map .str)) := cln_mapL fun x hx => cln_gn (h x hx)
theorem cln_cr {n : Nat} {c : Cr} : Cln (n + 2) (crD c) := cln_cons cln_fr (cln_cons cln_fr cln_nil)
theorem cln_way {n : Nat} {x : Str} (h : x = "free" ∨ x = "bound") : Cln n (.str x) := cln_ok (by rcases h with rfl | rfl <;> decide +kernel)
theorem cln_pc {n : Nat} {p : Pc} (h : GPc p) : Cln (n + 4) p.d := cln_cons cln_int (cln_cons (cln_gn h.tk) (cln_cons cln_int (cln_cons cln_int (cln_cons (cln_way h.way) (cln_cons cln_fr (cln_cons cln_fr (cln_cons (cln_map fun _ _ => cln_cr) cln_nil)))))))
theorem cln_ln {n : Nat} {l : Ln} (h : GLn l) : Cln (n + 6) l.d := cln_cons (cln_gn h.nm) (cln_cons cln_fr (cln_cons cln_int (cln_cons (cln_map fun p hp => cln_pc (h.pc p hp)) cln_nil)))
theorem cln_lns {n : Nat} {ls : List Ln} (h : ∀ l ∈ ls, GLn l) : Cln (n + 7) (.tup (ls.map Ln.d)) := cln_map fun l hl => cln_ln (h l hl)
theorem eqD_tnil {ds : List Dt} : eqD (.tup ds) (.tup []) = decide (ds = []) := eqD_dec (by simp)
theorem noLsts_map {α : Type} {f : α → Dt} : ∀ {xs : List α}, (∀ a ∈ xs, noLst (f a) = true) → noLsts (xs.map f) = true
  | [], _ => rfl
  | a :: xs, h => by
    rw [List.map_cons]
    show (noLst (f a) && noLsts (xs.map f)) = true
    rw [h a (by simp), noLsts_map (fun b hb => h b (by simp [hb]))]
    rfl
theorem noLst_sp {s : Sp} : noLst (spD s) = true := by
  show noLsts (s.map crD) = true
  exact noLsts_map fun _ _ => rfl
theorem noLst_pc {p : Pc} : noLst p.d = true := by
  show noLsts [.int p.n, .str p.take, .int p.at_, .int p.many, .str p.way, frp p.start, frp p.speed, spD p.shape] = true
  simp only [noLsts, noLst_sp, Bool.and_true]
  rfl
theorem noLst_pcs {ps : List Pc} : noLst (.tup (ps.map Pc.d)) = true := noLsts_map fun _ _ => noLst_pc
theorem atI_any {α : Type} {f : α → Dt} {ss : List α} {v : Int} (d : α) (h0 : 0 ≤ v) (h : v < ((ss.map f).length : Nat)) : atI (ss.map f) v = some (f (ss.getD v.toNat d)) := by
  rw [List.length_map] at h
  have hl : v.toNat < ss.length := by omega
  rw [List.getD_eq_getElem?_getD, List.getElem?_eq_getElem hl]
  exact atI_map (j := v.toNat) (by omega) (List.getElem?_eq_getElem hl)
theorem getD_mem {α : Type} {f : α → Dt} {ss : List α} {v : Int} (d : α) (h0 : 0 ≤ v) (h : v < ((ss.map f).length : Nat)) : ss.getD v.toNat d ∈ ss ∧ ss[v.toNat]? = some (ss.getD v.toNat d) := by
  rw [List.length_map] at h
  have hl : v.toNat < ss.length := by omega
  rw [List.getD_eq_getElem?_getD, List.getElem?_eq_getElem hl]
  exact ⟨List.getElem_mem hl, rfl⟩
/-! a pile of lists of pieces -/
def memQ (qs : List Addr) (pss : List (List Pc)) : Mem := List.zipWith (fun q ps => (q, MO.lst (ps.map Pc.d))) qs pss
theorem memQ_at {qs : List Addr} {pss : List (List Pc)} {i : Nat} {q : Addr} {ps : List Pc} (h1 : qs[i]? = some q) (h2 : pss[i]? = some ps) : (memQ qs pss)[i]? = some (q, .lst (ps.map Pc.d)) := by
  unfold memQ
  rw [List.getElem?_zipWith, h1, h2]
theorem memQ_len {qs : List Addr} {pss : List (List Pc)} (h : pss.length = qs.length) : (memQ qs pss).length = qs.length := by
  unfold memQ
  rw [List.length_zipWith]
  omega
theorem memQ_set : ∀ {qs : List Addr} {pss : List (List Pc)} {i : Nat} {q : Addr} {ps : List Pc}, qs[i]? = some q → (memQ qs pss).set i (q, .lst (ps.map Pc.d)) = memQ qs (pss.set i ps)
  | [], _, _, _, _, h => by simp at h
  | _ :: _, [], _, _, _, _ => by simp [memQ]
  | q0 :: qs, p0 :: pss, 0, q, ps, h => by
    have e : q0 = q := by simpa using h
    subst e
    rfl
  | q0 :: qs, p0 :: pss, i + 1, q, ps, h => by
    have := memQ_set (qs := qs) (pss := pss) (i := i) (q := q) (ps := ps) (by simpa using h)
    show (q0, MO.lst (p0.map Pc.d)) :: (memQ qs pss).set i _ = _
    rw [this]
    rfl
theorem flat_ins {A B : List Pc} {p : Pc} : ∀ {pss : List (List Pc)} {i : Nat}, pss[i]? = some (A ++ B) → ((pss.set i (A ++ [p] ++ B)).flatten).Perm (p :: pss.flatten)
  | [], _, h => by simp at h
  | ps0 :: pss, 0, h => by
    obtain rfl : ps0 = A ++ B := by simpa using h
    show (A ++ [p] ++ B ++ pss.flatten).Perm (p :: (A ++ B ++ pss.flatten))
    rw [List.append_assoc, List.append_assoc, List.append_assoc]
    exact List.perm_middle
  | ps :: pss, i + 1, h => by
    have := flat_ins (A := A) (B := B) (p := p) (pss := pss) (i := i) (by simpa using h)
    show (ps ++ (pss.set i _).flatten).Perm (p :: (ps ++ pss.flatten))
    exact (this.append_left ps).trans List.perm_middle
structure GSh0 (s : Sh) : Prop where
  tm : GTm s.tm
  tk1 : 1 ≤ s.tks.length
  tk2 : s.tks.length ≤ 4
  tks : ∀ t ∈ s.tks, GTk t
  tkn : (s.tks.map Tk.name).Nodup
  l2 : s.lns.length ≤ 4
  lns : ∀ l ∈ s.lns, GLn l
  lnn : (s.lns.map Ln.name).Nodup
  all : s.all.length ≤ 14
  nn : (s.all.map Pc.n).Nodup
  tkd : ∀ p ∈ s.all, p.take ∈ s.tks.map Tk.name
def npL : List Int := [6, 6, 14]
theorem npL_ok {v : Int} (a : 0 ≤ v) (b : v < 3) : 0 ≤ npL.getD v.toNat 0 ∧ npL.getD v.toNat 0 ≤ 14 := by
  have h : ∀ w ∈ npL, 0 ≤ w ∧ w ≤ 14 := by decide
  exact h _ (getD_memI (ss := npL) a b)
theorem solo_gn : GN "solo" := ⟨by decide +kernel, by decide +kernel, by decide +kernel⟩
def G__law_sheet (ds : List Dt) (k : Nat) (Ψ : Dt → Nat → Prop) : Prop := ∃ np : Int, ds = [.int 4, .int np] ∧ 0 ≤ np ∧ np ≤ 14 ∧ k + 20000 ≤ mostDraws ∧ ∀ (s : Sh) (k' : Nat), GSh0 s → k' ≤ k + 20000 → Ψ s.d k'
def G__law_good_sheet (ds : List Dt) (k : Nat) (Ψ : Dt → Nat → Prop) : Prop := ds = [] ∧ k + 21000 ≤ mostDraws ∧ ∀ (s : Sh) (k' : Nat), GSh s → k' ≤ k + 21000 → Ψ s.d k'
section
variable {T : Tb} {X : Cx} {ρ : Rho} {M : Mem}
/-- len(e), e a list that may change -/
theorem we_lenM {e : Expr} {p pos : Pos} {q : Addr} {n : Nat} {ds : List Dt} {Ψ : Dt → Mem → Prop} (hm : X.mg "len" = none) (hg : Gl X "len") (ho : EQ T X e ρ q) (hM : M[n]? = some (q, .lst ds)) (k : Ψ (.int (ds.length : Nat)) M)
    (he : starEach [e] X.env = (false, eval e X.env) :: starEach [] X.env := by exact st_any rfl) : WE T X (.Call (.Name "len" p) [e] [] pos) ρ M Ψ := fun F H σ Q f s m kk =>
  PE_w (pe_callB call_len_seq hg hm boot_len (pa_cons pe_w pa_nil he) (by decide) (by decide) he) (ho F H σ _ f s fun v F1 H1 f1 s1 r1 => by
    rw [rp_adr.mp r1]
    have q1 := Reach.pure m f1 s1
    obtain ⟨us, hu, ru⟩ := (q1.mem.at_ _ (List.mem_of_getElem? hM) : ObjIs X.K F1 H1 q (.lst ds))
    exact ⟨q, us, rfl, .inl (SqL.of hu), kk _ _ M F1 H1 k q1 (rp_int.mpr (by rw [ru.length]))⟩)
/-- a comprehension's turns that draw -/
theorem lcturnP {α : Type} {xs : List α} {f : α → Dt} {Φ : Dt → Mem → Prop} {elt : Expr} {scope : Scope} {j : Nat} {q : Addr} {rest : Mem} {k : Nat} (Pv : Nat → List Dt → Nat → Prop) (p0 : Pv 0 [] k) (hl : xs.length ≤ 100000)
    (he : ∀ i a acc k', xs[i]? = some a → acc.length = i → Pv i acc k' → ∀ s H C cl fp, WE T (X.blk s H scope (compEnvC scope cl C X.env) fp) elt ((ρ.set j none).set j (some (f a))) ((q, .pen k') :: rest) fun y M3 => ∃ k3, M3 = (q, .pen k3) :: rest ∧ Pv (i + 1) (acc ++ [y]) k3)
    (hd : ∀ acc k', acc.length = xs.length → Pv xs.length acc k' → Φ (.lst acc) ((q, .pen k') :: rest)) : LcTurn T X scope elt [] ρ j Φ (xs.map f) ((q, .pen k) :: rest) := by
  refine ⟨fun i acc M' => acc.length = i ∧ i ≤ xs.length ∧ ∃ k', M' = (q, .pen k') :: rest ∧ Pv i acc k', ⟨rfl, Nat.zero_le _, k, rfl, p0⟩, ?_, ?_⟩
  · rintro i d acc M' hd' ⟨hi', hi2, k', rfl, pv⟩
    obtain ⟨a, h1, rfl⟩ := getD_map (g := f) hd'
    have hil : i < xs.length := (List.getElem?_eq_some_iff.mp h1).1
    refine ⟨by have : sizeLine = 2 ^ 24 := rfl; omega, fun B hB => wts_nil ?_⟩
    rw [if_pos rfl]
    intro B2 hB2
    obtain ⟨s, H, C, cl, fp, rfl⟩ := hB2.is_
    exact (he i a acc k' h1 hi' pv s H C cl fp).mono fun y M3 ⟨k3, e3, p3⟩ => ⟨by rw [List.length_append, hi']; rfl, hil, k3, e3, p3⟩
  · rintro acc M' ⟨hl2, _, k', rfl, pv⟩
    rw [List.length_map] at hl2 pv
    exact hd acc k' hl2 pv
end
section
variable {W : Wo} {T : Tb}
theorem c__law_sheet (Z : En W) (A : At W "_law_sheet" s__law_sheet) (C__law_names : CalP W T 2 "_law_names" P__law_names G__law_names) (C__law_numbers : CalP W T 2 "_law_numbers" P__law_numbers G__law_numbers) (C__law_take : CalP W T 2 "_law_take" P__law_take G__law_take) (C__law_draw : CalP W T 1 "_law_draw" P__law_draw G__law_draw) (C__law_piece : CalP W T 5 "_law_piece" P__law_piece G__law_piece) (C__law_tempo : CalP W T 4 "_law_tempo" P__law_tempo G__law_tempo) (C__law_from : CalP W T 3 "_law_from" P__law_from G__law_from) : CalP W T 6 "_law_sheet" P__law_sheet G__law_sheet :=
  calP_of A sc__law_sheet bn__law_sheet fun f cdv Ar outer s H E pn k0 ds Ψ hr g hl => by
    obtain ⟨np, rfl, np0, np1, hk, g⟩ := g
    refine ws_cons ?_
    refine w1_setLc (ix := 4) (j := 3) (Ψ := fun ds M' => ∃ (ns : List Str) (k' : Nat), ds = ns.map .str ∧ M' = [(pn, .pen k')] ∧ 1 ≤ ns.length ∧ ns.length ≤ 3 ∧ (∀ x ∈ ns, GN x) ∧ ns.Nodup ∧ k' ≤ k0 + 11) rfl sc__law_sheet.nd ?_ (by show BlkOk N__law_sheet (defScope s__law_sheet) _ _; exact blkOk_by (by decide +kernel)) (pgB sc__law_sheet.nd rfl rfl) ?_ rfl rfl (by rfl)
    · refine iw_list ?_
      refine we_callP C__law_names (hr.mono (by decide)) (by rfl) ?_
      refine wa_cons' ?_
      refine we_p (ev 0) ?_
      refine wa_cons' ?_
      refine we_add' ?_
      refine we_p ed_int ?_
      refine we_pc C__law_draw (hr.mono (by decide)) (by rfl) (ad_cons (ev 0) (ad_cons ed_int ad_nil)) ⟨_, rfl, (by omega), (by omega), (by first | omega | (unfold mostDraws at *; omega)), fun v1 k1 a1 b1 c1 => ?_⟩
      refine ⟨_, _, rfl, rfl, ?_⟩
      refine wa_p ad_nil ?_
      refine ⟨_, _, _, _, rfl, rfl, rfl, ⟨(1 + v1).toNat, (by rw [Int.toNat_of_nonneg (by omega)]), by omega, by omega, fun ns k2 n1 n2 n3 n4 => ?_⟩⟩
      exact ⟨_, rfl, ns, k2, rfl, rfl, by omega, by omega, n2, n3, by omega⟩
    rintro ds M1 ⟨ns, k2, rfl, rfl, nl1, nl2, ngn, nnd, hk2⟩
    refine lcturnP (fun i acc k' => ∃ ts : List Tk, acc = ts.map Tk.d ∧ ts.map Tk.name = ns.take i ∧ (∀ t ∈ ts, GTk t) ∧ k' ≤ k2 + 50 * i) ⟨[], rfl, rfl, by simp, by omega⟩ (by omega) ?_ ?_
    · rintro i x acc k' hx hai ⟨ts, rfl, ht, hg, hk'⟩ _ _ _ _ _
      have hil : i < ns.length := (List.getElem?_eq_some_iff.mp hx).1
      refine we_pc C__law_take (hr.mono (by decide)) (by rfl) (ad_cons (ev 0) (ad_cons (ev 3) ad_nil)) ⟨x, rfl, ngn x (List.mem_of_getElem? hx), by omega, fun t k3 t1 t2 t3 => ?_⟩
      refine ⟨k3, rfl, ts ++ [t], by rw [List.map_append]; rfl, by rw [List.map_append, ht, List.map_singleton, t2, List.take_add_one, hx]; rfl, fun z hz => ?_, by omega⟩
      rcases List.mem_append.mp hz with hz | hz
      · exact hg z hz
      · rw [List.mem_singleton.mp hz]; exact t1
    rintro acc k3 hal ⟨ts, rfl, ht, hg, hk3⟩
    rw [List.take_length] at ht
    have htl : ts.length = ns.length := by have := congrArg List.length ht; simpa using this
    have htn : (ts.map Tk.name).Nodup := by rw [ht]; exact nnd
    clear hal
    refine ws_cons ?_
    refine w1_set (ix := 5) (hs := ?_) (hf := ?_) ?_ ?_ ?_ ?_
    case refine_2 => exact sc__law_sheet.nd
    case refine_3 => rfl
    case refine_4 => first | exact .inl rfl | exact .inr rfl
    case refine_5 => rfl
    case refine_6 => first | exact .inl rfl | exact .inr rfl
    refine we_callP C__law_names (hr.mono (by decide)) (by rfl) ?_
    refine wa_cons' ?_
    refine we_p (ev 0) ?_
    refine wa_cons' ?_
    refine we_pc C__law_draw (hr.mono (by decide)) (by rfl) (ad_cons (ev 0) (ad_cons (ed_add (ev 1) ed_int) ad_nil)) ⟨_, rfl, (by omega), (by omega), (by first | omega | (unfold mostDraws at *; omega)), fun v2 k2 a2 b2 c2 => ?_⟩
    refine wa_p ad_nil ?_
    refine ⟨_, _, _, _, rfl, rfl, rfl, ⟨v2.toNat, (by rw [Int.toNat_of_nonneg (by omega)]), by omega, by omega, fun ms k4 m1 m2 m3 m4 => ?_⟩⟩
    have hml : ms.length ≤ 4 := by omega
    have hk4 : k4 ≤ k0 + 200 := by omega
    clear m1 m4 b2
    refine ws_cons ?_
    refine w1_setLc (ix := 6) (j := 3) (Ψ := fun ds M' => ds = ms.map .str ∧ M' = [(pn, .pen k4)]) rfl sc__law_sheet.nd (iw_listp (ev 5) ⟨rfl, rfl⟩) (by show BlkOk N__law_sheet (defScope s__law_sheet) _ _; exact blkOk_by (by decide +kernel)) (pgB sc__law_sheet.nd rfl rfl) ?_ rfl rfl (by rfl)
    rintro ds M1 ⟨rfl, rfl⟩
    refine ⟨fun i acc M' => ∃ qs : List Addr, acc = qs.map .adr ∧ qs.length = i ∧ i ≤ ms.length ∧ M' = (pn, .pen k4) :: memQ qs (qs.map fun _ => []), ⟨[], rfl, rfl, Nat.zero_le _, rfl⟩, ?_, ?_⟩
    · rintro i d acc M' hd ⟨qs, rfl, hql, hqi, rfl⟩
      have hil : i < ms.length := by have := (List.getElem?_eq_some_iff.mp hd).1; rwa [List.length_map] at this
      refine ⟨by rw [List.length_map]; have : sizeLine = 2 ^ 24 := rfl; omega, fun B hB => wts_nil ?_⟩
      rw [if_pos rfl]
      intro B2 hB2
      obtain ⟨s, H, C, cl, fp, rfl⟩ := hB2.is_
      refine we_newL ad_nil fun q => ?_
      refine ⟨qs ++ [q], by rw [List.map_append]; rfl, by rw [List.length_append, hql]; rfl, hil, ?_⟩
      show (pn, MO.pen k4) :: (memQ qs _ ++ [(q, MO.lst [])]) = _
      congr 1
      unfold memQ
      rw [List.map_append, List.zipWith_append (by rw [List.length_map])]
      rfl
    rintro acc M' ⟨qs, rfl, hql, _, rfl⟩
    rw [List.length_map] at hql
    refine ws_cons ?_
    refine w1_for PassesOwn.never rfl (tg_n (j := 7) sc__law_sheet.nd rfl (.inl rfl)) (Ψ := fun ds M' => ∃ (xs : List Int) (k' : Nat), ds = xs.map .int ∧ M' = (pn, .pen k') :: memQ qs (qs.map fun _ => []) ∧ xs.length ≤ 14 ∧ (ms = [] → xs = []) ∧ (∀ x ∈ xs, 1 ≤ x ∧ x ≤ 99991) ∧ xs.Nodup ∧ k' ≤ k4 + 11) ?_ ?_
    · refine iw_list ?_
      refine we_callP C__law_numbers (hr.mono (by decide)) (by rfl) ?_
      refine wa_cons' ?_
      refine we_p (ev 0) ?_
      refine wa_cons' ?_
      refine we_mul' ?_
      refine we_pc C__law_draw (hr.mono (by decide)) (by rfl) (ad_cons (ev 0) (ad_cons (ed_add (ev 2) ed_int) ad_nil)) ⟨_, rfl, (by omega), (by omega), (by first | omega | (unfold mostDraws at *; omega)), fun v3 k3 a3 b3 c3 => ?_⟩
      refine we_p (ed_b (bd_intB Z.n_int) (by rfl) (ad_cons (ed_neD (ev 5) (ed_lst ad_nil) (by exact (cln_strs m2)) (by exact cln_lnil) hr.units) ad_nil)) ?_
      refine ⟨_, _, rfl, rfl, (by omega), ?_⟩
      refine wa_p ad_nil ?_
      refine ⟨_, _, _, _, rfl, rfl, rfl, ?_⟩
      have hm : ∃ m : Nat, (m : Int) = v3 * (if (!eqD (.lst (ms.map .str)) (.lst [])) = true then 1 else 0) ∧ m ≤ 14 ∧ (ms = [] → m = 0) := by
        rw [eqD_nil]
        cases ms with
        | nil => exact ⟨0, by simp, by omega, fun _ => rfl⟩
        | cons a b => exact ⟨v3.toNat, by simp; omega, by omega, fun z => by cases z⟩
      obtain ⟨m, em, hm1, hm2⟩ := hm
      refine ⟨m, by rw [em], hm1, by omega, fun xs k5 x1 x2 x3 x4 => ?_⟩
      refine ⟨_, rfl, xs, k5, rfl, rfl, by omega, fun z => ?_, x2, x3, by omega⟩
      rw [hm2 z] at x1
      exact List.length_eq_zero_iff.mp x1
    rintro ds M1 ⟨xs, k5, rfl, rfl, hxl, hx0, hxr, hxn, hk5⟩
    refine ⟨fun i ρ' M' => ∃ (pss : List (List Pc)) (k' : Nat) (x3 x7 x8 x9 x10 x11 : Option Dt), ρ' = [some (.adr pn), some (.int 4), some (.int np), x3, some (.lst (ts.map Tk.d)), some (.lst (ms.map .str)), some (.lst (qs.map .adr)), x7, x8, x9, x10, x11] ∧ M' = (pn, .pen k') :: memQ qs pss ∧ pss.length = qs.length ∧ (∀ ps ∈ pss, ∀ p ∈ ps, GPc p ∧ p.take ∈ ts.map Tk.name) ∧ (pss.flatten.map Pc.n).Perm (xs.take i) ∧ k' ≤ k5 + 910 * i, ?_, ?_, ?_⟩
    · refine ⟨qs.map fun _ => [], k5, _, _, _, _, _, _, rfl, rfl, by rw [List.length_map], fun ps hps => ?_, ?_, by omega⟩
      · obtain ⟨_, _, rfl⟩ := List.mem_map.mp hps
        intro p hp
        simp at hp
      · have e : (qs.map fun _ => ([] : List Pc)).flatten = [] := by
          rw [List.flatten_eq_nil_iff]
          intro l hl
          obtain ⟨_, _, rfl⟩ := List.mem_map.mp hl
          rfl
        rw [e]
        exact List.Perm.refl _
    · rintro i d ρ' M' hd ⟨pss, k', x3, x7, x8, x9, x10, x11, rfl, rfl, hpl, hpg, hpp, hk'⟩
      obtain ⟨n, hn, rfl⟩ := getD_map (g := Dt.int) hd
      have hil : i < xs.length := (List.getElem?_eq_some_iff.mp hn).1
      have hnr := hxr n (List.mem_of_getElem? hn)
      have hms : 0 < ((ms.map Dt.str).length : Int) ∧ ((ms.map Dt.str).length : Int) ≤ 4 := by
        rw [List.length_map]
        refine ⟨?_, by omega⟩
        rcases Nat.eq_zero_or_pos ms.length with z | z
        · rw [hx0 (List.length_eq_zero_iff.mp z)] at hil; simp at hil
        · omega
      have htp : 0 < ((ts.map Tk.d).length : Int) ∧ ((ts.map Tk.d).length : Int) ≤ 4 := by rw [List.length_map]; omega
      refine ⟨_, rfl, ?_⟩
      refine ws_cons ?_
      refine w1_set (ix := 8) (hs := ?_) (hf := ?_) ?_ ?_ ?_ ?_
      case refine_2 => exact sc__law_sheet.nd
      case refine_3 => rfl
      case refine_4 => first | exact .inl rfl | exact .inr rfl
      case refine_5 => rfl
      case refine_6 => first | exact .inl rfl | exact .inr rfl
      refine we_pc C__law_draw (hr.mono (by decide)) (by rfl) (ad_cons (ev 0) (ad_cons (ed_b (bd_lenL Z.n_len) (by rfl) (ad_cons (ev 5) ad_nil)) ad_nil)) ⟨_, rfl, (by omega), (by omega), (by first | omega | (unfold mostDraws at *; omega)), fun v4 k4 a4 b4 c4 => ?_⟩
      have hq1 : v4.toNat < qs.length := by have := b4; rw [List.length_map] at this; omega
      have hat : atI (qs.map Dt.adr) v4 = some (.adr qs[v4.toNat]) := atI_map (f := Dt.adr) (j := v4.toNat) (by omega) (List.getElem?_eq_getElem hq1)
      have hq := List.getElem?_eq_getElem hq1
      have hps := List.getElem?_eq_getElem (show v4.toNat < pss.length by omega)
      generalize qs[v4.toNat] = q at *
      generalize pss[v4.toNat] = ps at *
      have hpl2 : ps.length ≤ 14 := by
        have h1 : ps.length ≤ pss.flatten.length := by
          have := List.mem_of_getElem? hps
          exact (List.sublist_flatten_of_mem this).length_le
        have h2 := hpp.length_eq
        rw [List.length_map, List.length_take] at h2
        omega
      refine ws_cons ?_
      refine w1_set (ix := 9) (hs := ?_) (hf := ?_) ?_ ?_ ?_ ?_
      case refine_2 => exact sc__law_sheet.nd
      case refine_3 => rfl
      case refine_4 => first | exact .inl rfl | exact .inr rfl
      case refine_5 => rfl
      case refine_6 => first | exact .inl rfl | exact .inr rfl
      refine we_callP C__law_piece (hr.mono (by decide)) (by rfl) ?_
      refine wa_cons' ?_
      refine we_p (ev 0) ?_
      refine wa_cons' ?_
      refine we_p (ev 7) ?_
      refine wa_cons' ?_
      refine we_ixT' ?_
      refine we_ixL' ?_
      refine we_p (ev 4) ?_
      refine we_pc C__law_draw (hr.mono (by decide)) (by rfl) (ad_cons (ev 0) (ad_cons (ed_b (bd_lenL Z.n_len) (by rfl) (ad_cons (ev 4) ad_nil)) ad_nil)) ⟨_, rfl, (by omega), (by omega), (by first | omega | (unfold mostDraws at *; omega)), fun v5 k5 a5 b5 c5 => ?_⟩
      refine ⟨_, _, _, rfl, rfl, (atI_any (f := Tk.d) ⟨"", []⟩ a5 b5), ?_⟩
      refine we_p ed_int ?_
      refine ⟨_, _, _, rfl, rfl, rfl, ?_⟩
      refine wa_p ad_nil ?_
      refine ⟨_, _, _, _, rfl, rfl, rfl, ⟨n, _, rfl, by omega, by omega, (hg _ (getD_mem (f := Tk.d) ⟨"", []⟩ a5 b5).1).nm, by omega, fun p k7 p1 p2 p3 p4 => ?_⟩⟩
      have htk : p.take ∈ ts.map Tk.name := by rw [p3]; exact List.mem_map.mpr ⟨_, (getD_mem (f := Tk.d) ⟨"", []⟩ a5 b5).1, rfl⟩
      refine ws_one (w1_expr ?_)
      refine we_ins (n := v4.toNat + 1) (q := q) (ed_ixL (ev 6) (ev 8) hat) (memQ_at hq hps) ?_
      refine wa_cons' ?_
      refine we_callP C__law_draw (hr.mono (by decide)) (by rfl) ?_
      refine wa_cons' ?_
      refine we_p (ev 0) ?_
      refine wa_cons' ?_
      refine we_add' ?_
      refine we_lenM (n := v4.toNat + 1) Z.n_len (by rfl) (ed_ixL (ev 6) (ev 8) hat) (memQ_at hq hps) ?_
      refine we_p ed_int ?_
      refine ⟨_, _, rfl, rfl, ?_⟩
      refine wa_nil ?_
      refine ⟨_, _, _, _, rfl, rfl, rfl, ⟨_, rfl, (by omega), (by rw [List.length_map]; omega), (by first | omega | (unfold mostDraws at *; omega)), fun v8 k8 a8 b8 c8 => ?_⟩⟩
      refine wa_p (ad_cons (ev 9) ad_nil) ?_
      rw [List.length_map] at b8
      refine ⟨v8, p.d, ps.map Pc.d, rfl, memQ_at hq hps, by rw [List.length_map]; omega, a8, by omega, ?_⟩
      refine ⟨pss.set v4.toNat (ps.take v8.toNat ++ [p] ++ ps.drop v8.toNat), k8, _, _, _, _, _, _, rfl, ?_, by rw [List.length_set]; exact hpl, fun ps' hps' => ?_, ?_, by omega⟩
      · rw [← memQ_set hq]
        show (pn, MO.pen k8) :: (memQ qs pss).set v4.toNat _ = _
        rw [List.map_append, List.map_append, List.map_take, List.map_drop]
        rfl
      · rcases List.mem_or_eq_of_mem_set hps' with h | rfl
        · exact hpg ps' h
        · intro z hz
          have hps2 := hpg ps (List.mem_of_getElem? hps)
          rcases List.mem_append.mp hz with hz | hz
          · rcases List.mem_append.mp hz with hz | hz
            · exact hps2 z (List.mem_of_mem_take hz)
            · rw [List.mem_singleton.mp hz]; exact ⟨p1, htk⟩
          · exact hps2 z (List.mem_of_mem_drop hz)
      · have h1 := flat_ins (A := ps.take v8.toNat) (B := ps.drop v8.toNat) (p := p) (pss := pss) (i := v4.toNat) (by rw [List.take_append_drop]; exact hps)
        have h2 := (h1.map Pc.n).trans (show ((p :: pss.flatten).map Pc.n).Perm (p.n :: xs.take i) from List.Perm.cons p.n hpp)
        rw [p2] at h2
        rw [List.take_add_one, hn]
        exact h2.trans (List.perm_append_singleton n (xs.take i)).symm
    rintro ρ' M' ⟨pss, k6, x3, x7, x8, x9, x10, x11, rfl, rfl, hpl, hpg, hpp, hk6⟩
    rw [List.length_map] at hpp hk6
    rw [List.take_length] at hpp
    refine ws_cons (w1_newL (ix := 10) ad_nil (fun q => ?_) sc__law_sheet.nd rfl (.inl rfl))
    have hmem : ∀ (k' : Nat) (ds : List Dt), ((pn, MO.pen k') :: (memQ qs pss ++ [(q, MO.lst ds)]))[qs.length + 1]? = some (q, .lst ds) := fun k' ds => by
      rw [List.getElem?_cons_succ, List.getElem?_append_right (by rw [memQ_len hpl]; exact Nat.le_refl _), memQ_len hpl, Nat.sub_self]
      rfl
    refine ws_for (xs := ms.zip qs) (f := fun z => .tup [.str z.1, .adr z.2]) (fun _ => [some (.adr pn), some (.int 4), some (.int np), none, some (.lst (ts.map Tk.d)), some (.lst (ms.map .str)), some (.lst (qs.map .adr)), none, none, none, some (.adr q), none]) (fun i M' => ∃ (ls : List Ln) (k' : Nat), M' = (pn, .pen k') :: (memQ qs pss ++ [(q, .lst (ls.map Ln.d))]) ∧ ls.map Ln.name = ms.take i ∧ ls.map Ln.pcs = pss.take i ∧ (∀ l ∈ ls, GLn l) ∧ k' ≤ k6 + 6 * i) rfl (tg_t (is := [3, 11]) rfl (tgc (tgc Tg.nil sc__law_sheet.nd) sc__law_sheet.nd)) ⟨rfl, rfl, rfl, rfl, rfl, rfl, rfl, trivial⟩ (iw_zip (hpi := pi_zip (by rfl) Z.n_zip pa_w) (by rfl) Z.n_zip (ad_cons (ev 5) (ad_cons (ev 6) ad_nil)) ⟨?_, ?_⟩) ?_ ?_
    · rw [List.zip_map, List.map_map]
      rfl
    · exact ⟨[], k6, rfl, rfl, rfl, by simp, by omega⟩
    · rintro i ⟨nm, qi⟩ M' hz ⟨ls, k', rfl, hln, hlp, hlg, hk'⟩
      obtain ⟨hz1, hz2⟩ := List.getElem?_zip_eq_some.mp hz
      have hil : i < qs.length := (List.getElem?_eq_some_iff.mp hz2).1
      have hps := List.getElem?_eq_getElem (show i < pss.length by omega)
      generalize pss[i] = ps at *
      have hll : ls.length ≤ 4 := by
        have := congrArg List.length hln
        rw [List.length_map, List.length_take] at this
        omega
      refine ⟨_, rfl, ?_⟩
      refine ws_one (w1_expr ?_)
      refine we_app (n := qs.length + 1) (q := q) (ev 10) (hmem _ _) ?_
      refine we_tup ?_
      refine wa_cons' ?_
      refine we_p (ev 3) ?_
      refine wa_cons' ?_
      refine we_pc C__law_from (hr.mono (by decide)) (by rfl) (ad_cons (ev 0) ad_nil) ⟨rfl, by omega, fun y0 k7 y1 y2 y3 => ?_⟩
      refine wa_cons' ?_
      refine we_intB Z.n_int (by rfl) ?_
      refine we_eqI' ?_
      refine we_pc C__law_draw (hr.mono (by decide)) (by rfl) (ad_cons (ev 0) (ad_cons ed_int ad_nil)) ⟨_, rfl, (by omega), (by omega), (by first | omega | (unfold mostDraws at *; omega)), fun v9 k9 a9 b9 c9 => ?_⟩
      refine ⟨v9, 0, rfl, ed_int, ?_⟩
      refine ⟨_, rfl, ?_⟩
      refine wa_cons' ?_
      refine we_view (n := i + 1) (ix := 11) (q := qi) (ds := ps.map Pc.d) ?_ rfl (ed_b (bd_tupleL Z.n_tuple) (by rfl) (ad_cons (ev 11) ad_nil)) noLst_pcs ?_
      · rw [List.getElem?_cons_succ, List.getElem?_append_left (by rw [memQ_len hpl]; exact hil)]
        exact memQ_at hz2 hps
      refine wa_nil ?_
      refine ⟨by exact Nat.le_of_ble_eq_true rfl, ?_⟩
      refine ⟨_, hmem _ _, by rw [List.length_map]; omega, ?_⟩
      have hsil : (if decide (v9 = 0) = true then (1 : Int) else 0) = 0 ∨ (if decide (v9 = 0) = true then (1 : Int) else 0) = 1 := by split <;> simp
      generalize (if decide (v9 = 0) = true then (1 : Int) else 0) = sil at *
      refine ⟨⟨rfl, rfl, rfl, rfl, rfl, rfl, rfl, trivial⟩, ls ++ [⟨nm, y0, sil, ps⟩], k9, ?_, ?_, ?_, fun l hl => ?_, by omega⟩
      · rw [List.map_append]
        show (pn, MO.pen k9) :: (memQ qs pss ++ [(q, MO.lst (ls.map Ln.d))]).set qs.length _ = _
        rw [List.set_append_right (h := by rw [memQ_len hpl]; exact Nat.le_refl _), memQ_len hpl, Nat.sub_self]
        rfl
      · rw [List.map_append, hln, List.take_add_one, hz1]
        rfl
      · rw [List.map_append, hlp, List.take_add_one, hps]
        rfl
      · rcases List.mem_append.mp hl with hl | hl
        · exact hlg l hl
        · rw [List.mem_singleton.mp hl]
          exact ⟨m2 nm (List.mem_of_getElem? hz1), y1, y2, hsil, fun p hp => (hpg ps (List.mem_of_getElem? hps) p hp).1⟩
    · rintro M' ⟨ls, k7, rfl, hln, hlp, hlg, hk7⟩
      have hzl : (ms.zip qs).length = ms.length := by rw [List.length_zip]; omega
      rw [hzl] at hln hlp hk7
      rw [List.take_length] at hln
      rw [List.take_of_length_le (by omega)] at hlp
      have hlall : ls.flatMap Ln.pcs = pss.flatten := by rw [← hlp, List.flatMap_def]
      have hlen : ls.length ≤ 4 := by have := congrArg List.length hln; rw [List.length_map] at this; omega
      refine ws_freeze (n := qs.length + 1) (ix := 10) (hmem _ _) rfl ?_
      refine ws_one (w1_ret ?_)
      refine we_tup ?_
      refine wa_cons' ?_
      refine we_pc C__law_tempo (hr.mono (by decide)) (by rfl) (ad_cons (ev 0) (ad_cons ed_int ad_nil)) ⟨rfl, by omega, fun t k8 t1 t2 => ?_⟩
      refine wa_p (ad_cons (ed_b (bd_tupleL Z.n_tuple) (by rfl) (ad_cons (ev 4) ad_nil)) (ad_cons (ed_b (bd_tupleL Z.n_tuple) (by rfl) (ad_cons (ev 10) ad_nil)) ad_nil)) ?_
      refine ⟨by exact Nat.le_of_ble_eq_true rfl, ?_⟩
      refine ⟨_, _, rfl, ?_⟩
      refine g ⟨t, ts, ls⟩ k8 ⟨t1, by show 1 ≤ ts.length; omega, by show ts.length ≤ 4; omega, hg, htn, hlen, hlg, by show (ls.map Ln.name).Nodup; rw [hln]; exact m3, ?_, ?_, ?_⟩ (by omega)
      · show (ls.flatMap Ln.pcs).length ≤ 14
        rw [hlall]
        have := hpp.length_eq
        rw [List.length_map] at this
        omega
      · show ((ls.flatMap Ln.pcs).map Pc.n).Nodup
        rw [hlall]
        exact hpp.nodup_iff.mpr hxn
      · intro p hp
        have hp' : p ∈ ls.flatMap Ln.pcs := hp
        rw [hlall] at hp'
        obtain ⟨ps, h1, h2⟩ := List.mem_flatten.mp hp'
        exact (hpg ps h1 p h2).2
theorem c__law_good_sheet (Z : En W) (A : At W "_law_good_sheet" s__law_good_sheet) (C__law_sheet : CalP W T 6 "_law_sheet" P__law_sheet G__law_sheet) (C__law_draw : CalP W T 1 "_law_draw" P__law_draw G__law_draw) : CalP W T 7 "_law_good_sheet" P__law_good_sheet G__law_good_sheet :=
  calP_of A sc__law_good_sheet bn__law_good_sheet fun f cdv Ar outer s H E pn k0 ds Ψ hr g hl => by
    obtain ⟨rfl, hk, g⟩ := g
    refine ws_cons ?_
    refine w1_set (ix := 1) (hs := ?_) (hf := ?_) ?_ ?_ ?_ ?_
    case refine_2 => exact sc__law_good_sheet.nd
    case refine_3 => rfl
    case refine_4 => first | exact .inl rfl | exact .inr rfl
    case refine_5 => rfl
    case refine_6 => first | exact .inl rfl | exact .inr rfl
    refine we_callP C__law_sheet (hr.mono (by decide)) (by rfl) ?_
    refine wa_cons' ?_
    refine we_p (ev 0) ?_
    refine wa_cons' ?_
    refine we_p ed_int ?_
    refine wa_cons' ?_
    refine we_ixL' ?_
    refine we_p (ed_lst (ad_cons ed_int (ad_cons ed_int (ad_cons ed_int ad_nil)))) ?_
    refine we_pc C__law_draw (hr.mono (by decide)) (by rfl) (ad_cons (ev 0) (ad_cons ed_int ad_nil)) ⟨_, rfl, (by omega), (by omega), (by first | omega | (unfold mostDraws at *; omega)), fun v1 k1 a1 b1 c1 => ?_⟩
    refine ⟨_, _, _, rfl, rfl, (atI_li (f := Dt.int) (ss := npL) a1 b1), ?_⟩
    refine wa_p ad_nil ?_
    refine ⟨_, _, _, _, rfl, rfl, rfl, ⟨_, rfl, (npL_ok a1 b1).1, (npL_ok a1 b1).2, by omega, fun s k2 s1 s2 => ?_⟩⟩
    by_cases hl : s.lns = []
    · refine ws_cons (w1_ifT (TD.is (td_eqD (ed_ixT (ev 1) ed_int rfl) (ed_tup ad_nil) (by exact (cln_lns s1.lns)) (by exact cln_nil) hr.units) (by rw [eqD_tnil, hl]; rfl)) ?_)
      refine ws_one (w1_retp (ed_catT (ed_slT (ev 1) od_none (od_some ed_int) (by exact of_decide_eq_true rfl)) (ed_tup (ad_cons (ed_tup (ad_cons (ed_tup (ad_cons ed_str (ad_cons (ed_tup (ad_cons ed_int (ad_cons ed_int ad_nil))) (ad_cons ed_int (ad_cons (ed_tup ad_nil) ad_nil))))) ad_nil)) ad_nil)) (by exact List.cons_ne_nil _ _) (by exact List.cons_ne_nil _ _) (by exact Nat.le_of_ble_eq_true rfl)) ⟨_, _, rfl, ?_⟩)
      refine g ⟨s.tm, s.tks, [⟨"solo", (1, 1), 0, []⟩]⟩ k2 ⟨s1.tm, s1.tk1, s1.tk2, s1.tks, s1.tkn, by simp, by simp, fun l hl => ?_, by simp, by simp [Sh.all], by simp [Sh.all], by simp [Sh.all]⟩ (by omega)
      rw [List.mem_singleton.mp hl]
      exact ⟨solo_gn, ⟨as_fb (bt32 (by decide) (by decide)) (by decide), as_fv⟩, by decide, .inl rfl, fun p hp => by simp at hp⟩
    · refine ws_cons (w1_ifF (TD.is (td_eqD (ed_ixT (ev 1) ed_int rfl) (ed_tup ad_nil) (by exact (cln_lns s1.lns)) (by exact cln_nil) hr.units) (by rw [eqD_tnil]; simpa using hl)) (ws_nil ?_))
      refine ws_one (w1_retp (ev 1) ⟨_, _, rfl, ?_⟩)
      exact g s k2 ⟨s1.tm, s1.tk1, s1.tk2, s1.tks, s1.tkn, List.length_pos_iff.mpr hl, s1.l2, s1.lns, s1.lnn, s1.all, s1.nn, s1.tkd⟩ (by omega)
end
end BL
set_option maxHeartbeats 4000000
/-! defs of the law: places, steps, runs -/
namespace BL
open PySem PySem.Spec PyProof.Rows L2 Evl
inductive R__law_place : List Dt → Dt → Prop where
  | mk {s : Sh} {n : Int} {i r : Nat} {l : Ln} {p : Pc} (hs : GSh s) (h : Sat s n i l r p) : R__law_place [s.d, .int n] (.tup [l.d, .int (r : Nat), p.d])
inductive R__law_pieces_of : List Dt → Dt → Prop where
  | mk {s : Sh} (hs : GSh s) : R__law_pieces_of [s.d] (.lst (s.all.map Pc.d))
structure RnG (r : Rn) : Prop where
  a0 : 0 ≤ r.1
  a1 : r.1 ≤ 100
  b0 : 0 ≤ r.2.1
  b1 : r.2.1 ≤ 100
inductive R__law_steps : List Dt → Dt → Prop where
  | mk {rs : List Rn} (hl : rs.length ≤ 100) (hr : ∀ r ∈ rs, RnG r) : R__law_steps [.lst (rs.map rnD)] (.dct (stepsD rs))
inductive R__law_runs : List Dt → Dt → Prop where
  | mk {s : Sh} {l : Ln} {nm : Str} (hs : GSh s) (hl : l ∈ s.lns) (e : l.name = nm) : R__law_runs [s.d, .str nm] (.dct (stepsD (runsF l)))
inductive R__law_by_rank : List Dt → Dt → Prop where
  | mk {s : Sh} {nm : Str} (hs : GSh s) : R__law_by_rank [s.d, .str nm] (.dct (byRankD s nm))
theorem pcs_len {s : Sh} {l : Ln} (hs : GSh s) (h : l ∈ s.lns) : l.pcs.length ≤ 14 := by
  obtain ⟨i, hi⟩ := List.mem_iff_getElem?.mp h
  have := (perm_at (f := Ln.pcs) hi).length_eq
  rw [List.length_append] at this
  have := hs.all
  unfold Sh.all at this
  omega
theorem ln_gls {s : Sh} {l : Ln} (hs : GSh s) (h : l ∈ s.lns) : GLs l := ⟨(hs.lns l h).pc, pcs_len hs h⟩
theorem runStep_ok {l : Ln} {P : Int → Prop} {acc : List Rn} {be : Int × Int} (h : ∀ r ∈ acc, P r.1 ∧ P r.2.1) (k : P be.1 ∧ P be.2) : ∀ r ∈ runStep l acc be, P r.1 ∧ P r.2.1 := by
  unfold runStep
  have snoc : ∀ {v : Int}, ∀ r ∈ acc ++ [(be.1, be.2, v)], P r.1 ∧ P r.2.1 := fun r hr => by
    rcases List.mem_append.mp hr with hr | hr
    · exact h r hr
    · rw [List.mem_singleton.mp hr]; exact k
  split
  · exact h
  · split
    · rename_i r0 hl
      split
      · intro r hr
        rcases List.mem_append.mp hr with hr | hr
        · exact h r ((List.dropLast_sublist acc).mem hr)
        · rw [List.mem_singleton.mp hr]
          exact ⟨(h r0 (List.mem_of_getLast? hl)).1, k.2⟩
      · exact snoc
    · exact snoc
theorem runs_ok {l : Ln} {P : Int → Prop} : ∀ {sp : List (Int × Int)} {acc : List Rn}, (∀ r ∈ acc, P r.1 ∧ P r.2.1) → (∀ b ∈ sp, P b.1 ∧ P b.2) → ∀ r ∈ sp.foldl (runStep l) acc, P r.1 ∧ P r.2.1
  | [], _, h, _ => h
  | b :: sp, acc, h, k => runs_ok (sp := sp) (runStep_ok h (k b (by simp))) fun x hx => k x (by simp [hx])
theorem runs_good {l : Ln} (h : GLs l) : (runsF l).length ≤ 100 ∧ ∀ r ∈ runsF l, RnG r := by
  refine ⟨?_, fun r hr => ?_⟩
  · have h1 := runs_len (l := l) (sp := spansF l.pcs) (acc := [])
    have h2 := uS_len (xs := l.pcs.map Pc.at_ ++ l.pcs.map fun p => p.at_ + p.many)
    rw [List.length_append, List.length_map, List.length_map] at h2
    have h3 : (spansF l.pcs).length ≤ (edgesF l.pcs).length := by unfold spansF; rw [List.length_zip]; omega
    have h4 := h.len
    unfold runsF
    unfold edgesF at h3
    simp at h1
    omega
  · have q := runs_ok (l := l) (P := fun e => 0 ≤ e ∧ e ≤ 76) (sp := spansF l.pcs) (acc := []) (fun r hr => by simp at hr) (fun b hb => by
      unfold spansF at hb
      have hm := List.of_mem_zip hb
      exact ⟨edge_ok h.pc hm.1, edge_ok h.pc (List.mem_of_mem_tail hm.2)⟩) r hr
    exact ⟨q.1.1, by omega, q.2.1, by omega⟩
theorem room_u1 {k : Nat} {A : Around} (h : Room k A) : A.units + 1 < cLine := by have := h.units; omega
theorem room_u0 {k : Nat} {A : Around} (h : Room k A) : A.units < cLine := by have := h.units; omega
theorem fill_lenR {acc : KI} {r : Rn} (h : RnG r) (n : Nat) (hn : n ≤ (r.2.1 - r.1).toNat) : (fillI acc r.1 r.2.2 n).length ≤ acc.length + 100 := by
  have h1 := fillI_len (acc := acc) (b := r.1) (v := r.2.2) (n := n)
  have := h.a0
  have := h.b1
  omega
section
variable {W : Wo} {T : Tb}
theorem c__law_place (Z : En W) (A : At W "_law_place" s__law_place)  : Cal W T 1 "_law_place" P__law_place R__law_place :=
  cal_of A sc__law_place bn__law_place fun f cdv Ar outer s H E ds d hr g hl => by
    cases g with | @mk s n i r l p hs h =>
    have hel := h.else_ hs
    have hr0 : r < l.pcs.length := (List.getElem?_eq_some_iff.mp h.hp).1
    refine ws_for (xs := s.lns) (f := Ln.d) (fun _ => [some s.d, some (.int n), none, none, none]) (fun i' M' => M' = [] ∧ i' ≤ i) rfl (tg_n (j := 2) sc__law_place.nd rfl (.inl rfl)) ⟨rfl, rfl, trivial⟩ (iw_tupp (ed_ixT (ev 0) ed_int rfl) ⟨rfl, rfl, Nat.zero_le _⟩) ?_ ?_
    · rintro i' l' M' hl' ⟨rfl, hi'⟩
      refine ⟨_, rfl, ?_⟩
      refine ws_find (xs := l'.pcs.zipIdx) (f := fun q => .tup [.int (q.2 : Nat), q.1.d]) (p := fun q => decide (q.1.n = n)) [some s.d, some (.int n), some l'.d, none, none] rfl (tg_t (is := [3, 4]) rfl (tgc (tgc Tg.nil sc__law_place.nd) sc__law_place.nd)) ⟨rfl, rfl, rfl, trivial⟩ (iw_enumT (by rfl) Z.n_enumerate (ed_ixT (ev 2) ed_int rfl) ⟨?_, rfl⟩) ?_ ?_
      · rw [List.zipIdx_map, List.map_map]
        rfl
      · rintro ⟨q, j⟩ hq
        refine ⟨_, rfl, ⟨rfl, rfl, rfl, trivial⟩, (td_k kd_eqI (ed_ixT (ev 4) ed_int rfl) (ev 1)), fun hf => ?_⟩
        intro nx bk ct
        have hqn : q.n = n := of_decide_eq_true (List.find?_some (p := fun q : Pc × Nat => decide (q.1.n = n)) hf)
        have hqm : q ∈ l'.pcs := by
          obtain ⟨a, b⟩ := List.mem_zipIdx' hq
          rw [b]
          exact List.getElem_mem _
        have hii := lane_once hs h.hl hl' h.pm hqm (by rw [h.hn, hqn])
        subst hii
        have e1 : l' = l := by rw [h.hl] at hl'; exact (Option.some.inj hl').symm
        subst e1
        have hf2 := find_at (p := fun q : Pc × Nat => decide (q.1.n = n)) (xs := l'.pcs.zipIdx) (i := r) (a := (p, r)) (fun b hb => ?_) (by rw [List.getElem?_zipIdx, h.hp]; simp) (by simp [h.hn])
        · rw [hf] at hf2
          cases hf2
          refine ws_one (w1_retp (ed_tup (ad_cons (ev 2) (ad_cons (ev 3) (ad_cons (ev 4) ad_nil)))) rfl)
        · obtain ⟨k, hk⟩ := List.mem_iff_getElem?.mp hb
          have hkr : k < r := by have := (List.getElem?_eq_some_iff.mp hk).1; rw [List.length_take] at this; omega
          rw [List.getElem?_take_of_lt hkr, List.getElem?_zipIdx] at hk
          cases e : l'.pcs[k]? with
          | none => rw [e] at hk; cases hk
          | some y =>
            rw [e] at hk
            have eb : (y, 0 + k) = b := by simpa using hk
            rw [← eb]
            refine decide_eq_false (hel.1 y ?_)
            exact List.mem_of_getElem? (i := k) (by rw [List.getElem?_take_of_lt hkr]; exact e)
      · intro hf
        refine ws_nil ⟨⟨rfl, rfl, trivial⟩, rfl, ?_⟩
        rcases Nat.lt_or_ge i' i with z | z
        · exact z
        · have : i' = i := Nat.le_antisymm hi' z
          subst this
          have e1 : l' = l := by rw [h.hl] at hl'; exact (Option.some.inj hl').symm
          subst e1
          have := List.find?_eq_none.mp hf (p, r) (List.mem_of_getElem? (i := r) (by rw [List.getElem?_zipIdx, h.hp]; simp))
          exact absurd (decide_eq_true h.hn) this
    · rintro M' ⟨rfl, hi'⟩
      exact absurd (List.getElem?_eq_some_iff.mp h.hl).1 (by omega)
theorem c__law_pieces_of (Z : En W) (A : At W "_law_pieces_of" s__law_pieces_of)  : Cal W T 1 "_law_pieces_of" P__law_pieces_of R__law_pieces_of :=
  cal_of A sc__law_pieces_of bn__law_pieces_of fun f cdv Ar outer s H E ds d hr g hl => by
    cases g with | @mk s hs =>
    refine ws_cons (w1_newL (ix := 1) ad_nil (fun q => ?_) sc__law_pieces_of.nd rfl (.inl rfl))
    refine ws_for (xs := s.lns) (f := Ln.d) (fun _ => [some s.d, some (.adr q), none]) (fun i M' => M' = [(q, .lst (((s.lns.take i).flatMap Ln.pcs).map Pc.d))]) rfl (tg_n (j := 2) sc__law_pieces_of.nd rfl (.inl rfl)) ⟨rfl, rfl, trivial⟩ (iw_tupp (ed_ixT (ev 0) ed_int rfl) ⟨rfl, rfl⟩) ?_ ?_
    · rintro i l M' hl rfl
      have h1 := pcs_len hs (List.mem_of_getElem? hl)
      have h2 : ((s.lns.take i).flatMap Ln.pcs).length ≤ 14 := by
        have : (s.lns.take i ++ s.lns.drop i).flatMap Ln.pcs = s.all := by rw [List.take_append_drop]; rfl
        rw [List.flatMap_append] at this
        have h3 := congrArg List.length this
        rw [List.length_append] at h3
        have := hs.all
        omega
      refine ⟨_, rfl, ?_⟩
      refine ws_one (w1_expr ?_)
      refine we_ext (n := 0) (q := q) (ev 1) rfl (we_p (ed_b (bd_listT Z.n_list) (by rfl) (ad_cons (ed_ixT (ev 2) ed_int rfl) ad_nil)) ?_)
      refine ⟨_, _, rfl, rfl, by rw [List.length_map, List.length_map]; omega, ⟨rfl, rfl, trivial⟩, ?_⟩
      rw [List.take_add_one, hl, List.flatMap_append, List.map_append]
      show [(q, MO.lst _)] = [(q, MO.lst (_ ++ List.map Pc.d (List.flatMap Ln.pcs [l])))]
      rw [List.flatMap_cons, List.flatMap_nil, List.append_nil]
    · rintro M' rfl
      rw [List.take_length]
      refine ws_freeze (n := 0) (ix := 1) rfl rfl ?_
      refine ws_one (w1_retp (ev 1) rfl)
theorem c__law_steps (Z : En W) (A : At W "_law_steps" s__law_steps)  : Cal W T 1 "_law_steps" P__law_steps R__law_steps :=
  cal_of A sc__law_steps bn__law_steps fun f cdv Ar outer s H E ds d hr g hl => by
    cases g with | @mk rs hl hrs =>
    refine ws_cons ?_
    refine w1_set (ix := 1) (hs := ?_) (hf := ?_) ?_ ?_ ?_ ?_
    case refine_2 => exact sc__law_steps.nd
    case refine_3 => rfl
    case refine_4 => exact .inl rfl
    case refine_5 => rfl
    case refine_6 => exact .inl rfl
    refine we_newD fun q => ?_
    refine ws_for (xs := rs) (f := rnD) (fun _ => [some (.lst (rs.map rnD)), some (.adr q), none, none, none, none]) (fun i M' => M' = [(q, .dct (stepsGo [] (rs.take i)))]) rfl (tg_t (is := [2, 3, 4]) rfl (tgc (tgc (tgc Tg.nil sc__law_steps.nd) sc__law_steps.nd) sc__law_steps.nd)) ⟨rfl, rfl, trivial⟩ (iw_listp (ev 0) ⟨rfl, rfl⟩) ?_ ?_
    · rintro i r M' hr2 rfl
      have hg := hrs r (List.mem_of_getElem? hr2)
      have g1 := hg.a0
      have g2 := hg.a1
      have g3 := hg.b0
      have g4 := hg.b1
      have hsl : (stepsGo [] (rs.take i)).length ≤ 10000 := by
        have h1 := stepsGo_len (rs := rs.take i) (acc := []) (w := 100) (fun z hz => by
          have h2 := hrs z (List.mem_of_mem_take hz)
          have := h2.a0
          have := h2.b1
          omega)
        rw [List.length_take] at h1
        simp at h1
        omega
      have est : stepsGo [] (rs.take (i + 1)) = fillI (stepsGo [] (rs.take i)) r.1 r.2.2 (r.2.1 - r.1).toNat := by
        unfold stepsGo
        rw [List.take_add_one, hr2, List.foldl_append]
        rfl
      rw [est]
      generalize stepsGo [] (rs.take i) = acc at *
      refine ⟨_, rfl, ?_⟩
      refine ws_for (xs := List.range (r.2.1 - r.1).toNat) (f := fun (k : Nat) => .int (r.1 + (k : Int))) (fun _ => [some (.lst (rs.map rnD)), some (.adr q), some (.int r.1), some (.int r.2.1), some (.int r.2.2), none]) (fun k M' => M' = [(q, .dct (fillI acc r.1 r.2.2 k))]) rfl (tg_n (j := 5) sc__law_steps.nd rfl (.inl rfl)) ⟨rfl, rfl, rfl, rfl, rfl, trivial⟩ (iw_rng2 (by rfl) Z.n_range (wa_p (ad_cons (ev 2) (ad_cons (ev 3) ad_nil)) ⟨_, _, rfl, (by omega), rfl, rfl⟩)) ?_ ?_
      · rintro k a M' ha rfl
        obtain ⟨hk, rfl⟩ := rng_at ha
        have hfl := fill_lenR (acc := acc) hg a (by omega)
        refine ⟨_, rfl, ?_⟩
        refine ws_one (w1_dput (n := 0) (q := q) (room_u1 hr) (ev 1) (ev 5) (ev 4) rfl (by omega) ?_)
        refine ⟨⟨rfl, rfl, rfl, rfl, rfl, trivial⟩, ?_⟩
        rw [fillI_succ]
        rfl
      · rintro M' rfl
        rw [List.length_range]
        exact ws_nil ⟨⟨rfl, rfl, trivial⟩, rfl⟩
    · rintro M' rfl
      rw [List.take_length]
      refine ws_freezeD (n := 0) (ix := 1) rfl rfl ?_
      refine ws_one (w1_retp (ev 1) rfl)
theorem c__law_runs (Z : En W) (A : At W "_law_runs" s__law_runs) (C__law_steps : Cal W T 1 "_law_steps" P__law_steps R__law_steps) (C_runs_of : Cal W T 10 "runs_of" P_runs_of R_runs_of) : Cal W T 11 "_law_runs" P__law_runs R__law_runs :=
  cal_of A sc__law_runs bn__law_runs fun f cdv Ar outer s H E ds d hr g hl => by
    cases g with | @mk s l nm hs hm e =>
    subst e
    have hg := runs_good (ln_gls hs hm)
    refine ws_one (w1_retp (ed_call C__law_steps (hr.mono (by decide)) (by rfl) (ad_cons (ed_call C_runs_of (hr.mono (by decide)) (by rfl) (ad_cons (ev 0) (ad_cons (ev 1) ad_nil)) (.mk hs (lnBy_of hs.lnn hm) (ln_gls hs hm))) ad_nil) (.mk hg.1 hg.2)) rfl)
theorem c__law_by_rank (Z : En W) (A : At W "_law_by_rank" s__law_by_rank) (C__law_steps : Cal W T 1 "_law_steps" P__law_steps R__law_steps) : Cal W T 2 "_law_by_rank" P__law_by_rank R__law_by_rank :=
  cal_of A sc__law_by_rank bn__law_by_rank fun f cdv Ar outer s H E ds d hr g hl => by
    cases g with | @mk s nm hs =>
    refine ws_cons ?_
    refine w1_set (ix := 2) (hs := ?_) (hf := ?_) ?_ ?_ ?_ ?_
    case refine_2 => exact sc__law_by_rank.nd
    case refine_3 => rfl
    case refine_4 => exact .inl rfl
    case refine_5 => rfl
    case refine_6 => exact .inl rfl
    refine we_newD fun q => ?_
    refine ws_for (xs := s.lns) (f := Ln.d) (fun _ => [some s.d, some (.str nm), some (.adr q), none, none]) (fun i M' => M' = [(q, .dct ((s.lns.take i).foldl (brLn nm) []))] ∧ ((s.lns.take i).foldl (brLn nm) []).length ≤ 300 * i) rfl (tg_n (j := 3) sc__law_by_rank.nd rfl (.inl rfl)) ⟨rfl, rfl, rfl, trivial⟩ (iw_tupp (ed_ixT (ev 0) ed_int rfl) ⟨rfl, rfl, by simp⟩) ?_ ?_
    · rintro i l M' hl ⟨rfl, hlen⟩
      have hlm := List.mem_of_getElem? hl
      have hi4 : i < 4 := by have := (List.getElem?_eq_some_iff.mp hl).1; have := hs.l2; omega
      have h14 := pcs_len hs hlm
      have est : (s.lns.take (i + 1)).foldl (brLn nm) [] = brLn nm ((s.lns.take i).foldl (brLn nm) []) l := by
        rw [List.take_add_one, hl, List.foldl_append]
        rfl
      rw [est]
      generalize (s.lns.take i).foldl (brLn nm) [] = acc at *
      refine ⟨_, rfl, ?_⟩
      refine ws_for (xs := l.pcs) (f := Pc.d) (fun _ => [some s.d, some (.str nm), some (.adr q), some l.d, none]) (fun k M' => M' = [(q, .dct (if l.name = nm then brGo acc (l.pcs.take k) else acc))] ∧ (if l.name = nm then brGo acc (l.pcs.take k) else acc).length ≤ 300 * i + 16 * k) rfl (tg_n (j := 4) sc__law_by_rank.nd rfl (.inl rfl)) ⟨rfl, rfl, rfl, rfl, trivial⟩ (iw_tupp (ed_ixT (ev 3) ed_int rfl) ⟨rfl, ?_, ?_⟩) ?_ ?_
      · split <;> rfl
      · split <;> (show acc.length ≤ _; omega)
      · rintro k p M' hp ⟨rfl, hk⟩
        have hkl : k < 14 := by have := (List.getElem?_eq_some_iff.mp hp).1; omega
        have gp := (hs.lns l hlm).pc p (List.mem_of_getElem? hp)
        have g1 := gp.a1
        have g2 := gp.a2
        have g3 := gp.m1
        have g4 := gp.m2
        refine ⟨_, rfl, ?_⟩
        by_cases hn : l.name = nm
        · rw [if_pos hn] at hk ⊢
          rw [if_pos hn]
          have est2 : brGo acc (l.pcs.take (k + 1)) = mergeI (brGo acc (l.pcs.take k)) (stepsD [pRn p]) := by
            unfold brGo
            rw [List.take_add_one, hp, List.foldl_append]
            rfl
          have hsl : (stepsD [pRn p]).length ≤ 16 := by
            have h1 := stepsGo_len (rs := [pRn p]) (acc := []) (w := 16) (fun z hz => by
              rw [List.mem_singleton.mp hz]
              show (p.at_ + p.many - p.at_).toNat ≤ 16
              omega)
            show (stepsGo [] [pRn p]).length ≤ 16
            simpa using h1
          have hml := mergeI_len (more := stepsD [pRn p]) (kvs := brGo acc (l.pcs.take k))
          rw [est2]
          refine ws_one (w1_ifT (TD.is (td_k kd_eqS (ed_ixT (ev 3) ed_int rfl) (ev 1)) (decide_eq_true hn)) ?_)
          refine ws_one (w1_expr ?_)
          refine we_updD (n := 0) (q := q) (more := stepsD [pRn p]) (ev 2) rfl (ed_call C__law_steps (hr.mono (by decide)) (by rfl) (ad_cons (ed_lst (ad_cons (ed_tup (ad_cons (ed_ixT (ev 4) ed_int rfl) (ad_cons (ed_add (ed_ixT (ev 4) ed_int rfl) (ed_ixT (ev 4) ed_int rfl)) (ad_cons (ed_ixT (ev 4) ed_int rfl) ad_nil)))) ad_nil)) ad_nil) (R__law_steps.mk (rs := [pRn p]) (by simp) (fun z hz => by rw [List.mem_singleton.mp hz]; exact ⟨g1, by show p.at_ ≤ 100; omega, by show 0 ≤ p.at_ + p.many; omega, by show p.at_ + p.many ≤ 100; omega⟩))) (by omega) ?_
          exact ⟨⟨rfl, rfl, rfl, rfl, trivial⟩, rfl, by omega⟩
        · rw [if_neg hn] at hk ⊢
          rw [if_neg hn]
          refine ws_one (w1_ifF (TD.is (td_k kd_eqS (ed_ixT (ev 3) ed_int rfl) (ev 1)) (decide_eq_false hn)) (ws_nil ?_))
          exact ⟨⟨rfl, rfl, rfl, rfl, trivial⟩, rfl, by omega⟩
      · rintro M' ⟨rfl, hk⟩
        rw [List.take_length] at *
        exact ws_nil ⟨⟨rfl, rfl, rfl, trivial⟩, rfl, by have hk' : (brLn nm acc l).length ≤ 300 * i + 16 * l.pcs.length := hk; omega⟩
    · rintro M' ⟨rfl, _⟩
      rw [List.take_length]
      refine ws_freezeD (n := 0) (ix := 2) rfl rfl ?_
      refine ws_one (w1_retp (ev 2) rfl)
end
end BL
set_option maxHeartbeats 4000000
/-! defs of the law: all is right with one piece -/
namespace BL
open PySem PySem.Spec PyProof.Rows L2 Evl
inductive R__law_right : List Dt → Dt → Prop where
  | mk {s : Sh} {n : Int} {i r : Nat} {l : Ln} {p : Pc} (hs : GSh s) (h : Sat s n i l r p) : R__law_right [s.d, .int n] (.bl true)
theorem cln_sh {n : Nat} {s : Sh} (hs : GSh s) : Cln (n + 8) s.d :=
  cln_cons (cln_cons (cln_map fun _ _ => cln_sg) (cln_cons cln_fr cln_nil)) (cln_cons (cln_map fun t ht => cln_cons (cln_gn (hs.tks t ht).nm) (cln_cons (cln_map fun _ _ => cln_int) cln_nil)) (cln_cons (cln_lns hs.lns) cln_nil))
def mineI (p : Pc) : List Int := (List.range p.many.toNat).map fun i => p.at_ + (i : Nat)
theorem mine_cov {p : Pc} {j : Int} (h : j ∈ mineI p) : coversB p (j, 1) = true := by
  obtain ⟨i, hi, rfl⟩ := List.mem_map.mp h
  rw [List.mem_range] at hi
  rw [cov_int, decide_eq_true (by omega), decide_eq_true (by omega)]
  rfl
section
variable {s : Sh} {n : Int} {i r : Nat} {l : Ln} {p : Pc}
abbrev hiS (s : Sh) (i : Nat) (l : Ln) (r : Nat) (p : Pc) : Sh := raiS s i l r p (ers l r).length
abbrev hiL (l : Ln) (r : Nat) (p : Pc) : Ln := l.setPcs (ins (ers l r) (ers l r).length p)
abbrev loS (s : Sh) (i : Nat) (l : Ln) (r : Nat) (p : Pc) : Sh := raiS s i l r p 0
abbrev loL (l : Ln) (r : Nat) (p : Pc) : Ln := l.setPcs (ins (ers l r) 0 p)
theorem raise_top (h : Sat s n i l r p) (hs : GSh s) : R_raise_to [s.d, .int n, .int (((l.pcs.map Pc.d).length : Nat) - 1)] (hiS s i l r p).d := by
  have e : (((l.pcs.map Pc.d).length : Nat) : Int) - 1 = ((ers l r).length : Nat) := by have := h.elen; rw [List.length_map]; omega
  rw [e]
  exact raise_R h hs (Nat.le_refl _)
theorem raise_bot (h : Sat s n i l r p) (hs : GSh s) : R_raise_to [s.d, .int n, .int 0] (loS s i l r p).d := raise_R h hs (k := 0) (Nat.zero_le _)
theorem raise_top_back (h : Sat s n i l r p) (hs : GSh s) : R_raise_to [(hiS s i l r p).d, .int n, .int (r : Nat)] s.d := by
  obtain ⟨g, q⟩ := raise_good h hs (Nat.le_refl _)
  have := raise_R q g (k := r) (by rw [ers_ins (Nat.le_refl _)]; exact h.rle)
  rw [raise_back h (Nat.le_refl _)] at this
  exact this
theorem raise_bot_back (h : Sat s n i l r p) (hs : GSh s) : R_raise_to [(loS s i l r p).d, .int n, .int (r : Nat)] s.d := by
  obtain ⟨g, q⟩ := raise_good h hs (k := 0) (Nat.zero_le _)
  have := raise_R q g (k := r) (by rw [ers_ins (Nat.zero_le _)]; exact h.rle)
  rw [raise_back h (Nat.zero_le _)] at this
  exact this
theorem hi_runs (h : Sat s n i l r p) (hs : GSh s) : R__law_runs [(hiS s i l r p).d, .str l.name] (.dct (stepsD (runsF (hiL l r p)))) := by
  obtain ⟨g, q⟩ := raise_good h hs (Nat.le_refl _)
  exact .mk g q.lm rfl
theorem lo_runs (h : Sat s n i l r p) (hs : GSh s) : R__law_runs [(loS s i l r p).d, .str l.name] (.dct (stepsD (runsF (loL l r p)))) := by
  obtain ⟨g, q⟩ := raise_good h hs (k := 0) (Nat.zero_le _)
  exact .mk g q.lm rfl
theorem runs_at {s : Sh} {l : Ln} (hs : GSh s) (hl : l ∈ s.lns) (j : Int) : valI (stepsD (runsF l)) j = hiI l j := by
  rw [stepsD_val, runs_val (fun p hp => by have := ((hs.lns l hl).pc p hp).m1; omega)]
theorem hi_val (h : Sat s n i l r p) (hs : GSh s) {j : Int} (hj : j ∈ mineI p) : oI (valI (stepsD (runsF (hiL l r p))) j) = .int n := by
  obtain ⟨g, q⟩ := raise_good h hs (Nat.le_refl _)
  rw [runs_at g q.lm]
  unfold hiI
  rw [ins_top, hi_top (mine_cov hj)]
  show Dt.int p.n = _
  rw [h.hn]
theorem lo_val (h : Sat s n i l r p) (hs : GSh s) {j : Int} (hj : j ∈ mineI p) : valI (stepsD (runsF (loL l r p))) j = some ((hiI (loL l r p) j).getD 0) ∧ decide ((hiI (loL l r p) j).getD 0 = n) = !(valI (stepsD ((ers l r).map covRn)) j).isSome := by
  obtain ⟨g, q⟩ := raise_good h hs (k := 0) (Nat.zero_le _)
  obtain ⟨v, e1, e2⟩ := low_left h hs (mine_cov hj)
  rw [runs_at g q.lm, e1]
  exact ⟨rfl, e2⟩
theorem rem_at (h : Sat s n i l r p) {k : Nat} {l0 : Ln} (hk : s.lns[k]? = some l0) : ∃ l3, (remS s i l r).lns[k]? = some l3 ∧ l3.name = l0.name := by
  have nm : (remS s i l r).lns.map Ln.name = s.lns.map Ln.name := upS_names (l1 := l.setPcs (ers l r)) h.hl rfl
  have e : ((remS s i l r).lns.map Ln.name)[k]? = some l0.name := by rw [nm, List.getElem?_map, hk]; rfl
  rw [List.getElem?_map] at e
  cases q : (remS s i l r).lns[k]? with
  | none => rw [q] at e; cases e
  | some l3 => rw [q] at e; exact ⟨l3, rfl, Option.some.inj e⟩
end
section
variable {W : Wo} {T : Tb}
theorem c__law_right (Z : En W) (A : At W "_law_right" s__law_right) (C__law_place : Cal W T 1 "_law_place" P__law_place R__law_place) (C__law_steps : Cal W T 1 "_law_steps" P__law_steps R__law_steps) (C_raise_to : Cal W T 10 "raise_to" P_raise_to R_raise_to) (C_shift : Cal W T 10 "shift" P_shift R_shift) (C__law_runs : Cal W T 11 "_law_runs" P__law_runs R__law_runs) (C__law_by_rank : Cal W T 2 "_law_by_rank" P__law_by_rank R__law_by_rank) : Cal W T 12 "_law_right" P__law_right R__law_right :=
  cal_of A sc__law_right bn__law_right fun f cdv Ar outer s H E ds d hr g hl => by
    cases g with | @mk s n i r l p hs h =>
    have hi := raise_good h hs (Nat.le_refl _)
    have gp := h.gp hs
    have gm := gp.m2
    have gm1 := gp.m1
    have ga := gp.a1
    have ga2 := gp.a2
    have l14 := pcs_len hs h.lm
    have e14 := h.elen
    have hmm : ∀ x ∈ mineI p, (0 : Int) ≤ 0 := fun _ _ => Int.le_refl 0
    have hml : (mineI p).length ≤ 100000 := by unfold mineI; rw [List.length_map, List.length_range]; omega
    refine ws_cons (w1_unpp (ed_call C__law_place (hr.mono (by decide)) (by rfl) (ad_cons (ev 0) (ad_cons (ev 1) ad_nil)) (.mk hs h)) rfl ?_ rfl (tgc (i := 2) (tgc (i := 3) (tgc (i := 4) Tg.nil (by exact sc__law_right.nd)) (by exact sc__law_right.nd)) (by exact sc__law_right.nd)))
    refine ws_cons (w1_lc0 (ix := 5) (j := 13) (xs := mineI p) (f := Dt.int) (g := Dt.int) (iw_rng2 (by rfl) Z.n_range (wa_p (ad_cons (ed_ixT (ev 4) ed_int rfl) (ad_cons (ed_add (ed_ixT (ev 4) ed_int rfl) (ed_ixT (ev 4) ed_int rfl)) ad_nil)) ⟨_, _, rfl, (by omega), ?_, rfl⟩)) rfl sc__law_right.nd (by show BlkOk N__law_right (defScope s__law_right) _ _; exact blkOk_by (by decide +kernel)) (pgB sc__law_right.nd rfl rfl) hml (fun x0 h0 _ _ _ _ _ => (ev 13)) ?_ rfl rfl)
    · rw [show p.at_ + p.many - p.at_ = p.many by omega]
      unfold mineI rgD
      rw [List.map_map]
      rfl
    refine ws_cons (w1_unpp (ed_tup (ad_cons (ed_call C_raise_to (hr.mono (by decide)) (by rfl) (ad_cons (ev 0) (ad_cons (ev 1) (ad_cons (ed_sub (ed_b (bd_lenT Z.n_len) (by rfl) (ad_cons (ed_ixT (ev 2) ed_int rfl) ad_nil)) ed_int) ad_nil))) (raise_top h hs)) (ad_cons (ed_call C_raise_to (hr.mono (by decide)) (by rfl) (ad_cons (ev 0) (ad_cons (ev 1) (ad_cons ed_int ad_nil))) (raise_bot h hs)) ad_nil))) rfl ?_ rfl (tgc (i := 6) (tgc (i := 7) Tg.nil (by exact sc__law_right.nd)) (by exact sc__law_right.nd)))
    have hel : eqD (.lst (((mineI p).filter fun _ => !decide (n = n)).map Dt.int)) (.lst []) = true := by
      rw [eqD_nil]
      simp
    refine ws_cons (w1_ifF (TD.is (td_neD (ed_lc1 (j := 13) (xs := mineI p) (f := Dt.int) (g := Dt.int) (b := fun _ => !decide (n = n)) (iw_listp (ev 5) ⟨rfl, rfl⟩) rfl sc__law_right.nd (by show BlkOk N__law_right (defScope s__law_right) _ _; exact blkOk_by (by decide +kernel)) (pgB sc__law_right.nd rfl rfl) hml (fun x0 h0 _ _ _ _ _ => td_k kd_neI (ED.is (ed_dget2 (room_u1 hr) (ed_call C__law_runs (hr.mono (by decide)) (by rfl) (ad_cons (ev 6) (ad_cons (ed_ixT (ev 2) ed_int rfl) ad_nil)) (hi_runs h hs)) (ev 13)) (hi_val h hs h0)) (ev 1)) (fun x0 h0 _ _ _ _ _ _ => (ev 13))) (ed_lst ad_nil) (cln_mapL fun _ _ => cln_int) cln_lnil hr.units) (by rw [hel]; rfl)) (ws_nil ?_))
    refine ws_cons (w1_lc1 (ix := 8) (j := 14) (xs := l.pcs) (f := Pc.d) (g := Pc.d) (b := fun q => !decide (q.n = n)) (iw_tupp (ed_ixT (ev 2) ed_int rfl) ⟨rfl, rfl⟩) rfl sc__law_right.nd (by show BlkOk N__law_right (defScope s__law_right) _ _; exact blkOk_by (by decide +kernel)) (pgB sc__law_right.nd rfl rfl) (by omega) (fun x0 h0 _ _ _ _ _ => (td_k kd_neI (ed_ixT (ev 14) ed_int rfl) (ev 1))) (fun x0 h0 _ _ _ _ _ _ => (ev 14)) ?_ rfl rfl)
    rw [show (l.pcs.filter fun q => !decide (q.n = n)) = ers l r from h.oth hs]
    refine ws_cons (w1_setp (ix := 9) (ed_call C__law_steps (hr.mono (by decide)) (by rfl) (ad_cons (ED.is (d' := .lst (((ers l r).map covRn).map rnD)) (ed_lc0 (j := 14) (xs := ers l r) (f := Pc.d) (g := fun q => .tup [.int q.at_, .int (q.at_ + q.many), .int 1]) (iw_listp (ev 8) ⟨rfl, rfl⟩) rfl sc__law_right.nd (by show BlkOk N__law_right (defScope s__law_right) _ _; exact blkOk_by (by decide +kernel)) (pgB sc__law_right.nd rfl rfl) (by omega) (fun x0 h0 _ _ _ _ _ => (ed_tup (ad_cons (ed_ixT (ev 14) ed_int rfl) (ad_cons (ed_add (ed_ixT (ev 14) ed_int rfl) (ed_ixT (ev 14) ed_int rfl)) (ad_cons ed_int ad_nil)))))) ?_) ad_nil) (R__law_steps.mk ?_ ?_)) ?_ sc__law_right.nd rfl (.inr rfl))
    · rw [List.map_map]
      rfl
    · rw [List.length_map]
      omega
    · intro z hz
      obtain ⟨q, hq, rfl⟩ := List.mem_map.mp hz
      have hq2 : q ∈ l.pcs := h.perm.mem_iff.mpr (List.mem_cons_of_mem _ hq)
      have gq := (hs.lns l h.lm).pc q hq2
      have q1 := gq.a1
      have q2 := gq.a2
      have q3 := gq.m1
      have q4 := gq.m2
      exact ⟨q1, by show q.at_ ≤ 100; omega, by show 0 ≤ q.at_ + q.many; omega, by show q.at_ + q.many ≤ 100; omega⟩
    refine ws_cons (w1_lc1 (ix := 10) (j := 13) (xs := mineI p) (f := Dt.int) (g := Dt.int) (b := fun j => !(valI (stepsD ((ers l r).map covRn)) j).isSome) (iw_listp (ev 5) ⟨rfl, rfl⟩) rfl sc__law_right.nd (by show BlkOk N__law_right (defScope s__law_right) _ _; exact blkOk_by (by decide +kernel)) (pgB sc__law_right.nd rfl rfl) hml (fun x0 h0 _ _ _ _ _ => td_dnotin (room_u1 hr) (ev 9) (ev 13)) (fun x0 h0 _ _ _ _ _ _ => (ev 13)) ?_ rfl rfl)
    have hlow : ((mineI p).filter fun j => decide ((hiI (loL l r p) j).getD 0 = n)) = (mineI p).filter fun j => !(valI (stepsD ((ers l r).map covRn)) j).isSome := List.filter_congr fun j hj => (lo_val h hs hj).2
    refine ws_cons (w1_ifF (TD.is (td_neD (ed_lc1 (j := 13) (xs := mineI p) (f := Dt.int) (g := Dt.int) (b := fun j => decide ((hiI (loL l r p) j).getD 0 = n)) (iw_listp (ev 5) ⟨rfl, rfl⟩) rfl sc__law_right.nd (by show BlkOk N__law_right (defScope s__law_right) _ _; exact blkOk_by (by decide +kernel)) (pgB sc__law_right.nd rfl rfl) hml (fun x0 h0 _ _ _ _ _ => td_k kd_eqI (ed_dget (room_u1 hr) (ed_call C__law_runs (hr.mono (by decide)) (by rfl) (ad_cons (ev 7) (ad_cons (ed_ixT (ev 2) ed_int rfl) ad_nil)) (lo_runs h hs)) (ev 13) (lo_val h hs h0).1) (ev 1)) (fun x0 h0 _ _ _ _ _ _ => (ev 13))) (ev 10) (cln_mapL fun _ _ => cln_int) (cln_mapL fun _ _ => cln_int) hr.units) (by rw [hlow, eqD_t rfl]; rfl)) (ws_nil ?_))
    refine ws_cons (w1_ifF (TD.is (td_w (wd_or (td_neD (ed_call C_raise_to (hr.mono (by decide)) (by rfl) (ad_cons (ev 6) (ad_cons (ev 1) (ad_cons (ev 3) ad_nil))) (raise_top_back h hs)) (ev 0) (by exact (cln_sh hs)) (by exact (cln_sh hs)) hr.units) fun hq => (wd_or1 (td_neD (ed_call C_raise_to (hr.mono (by decide)) (by rfl) (ad_cons (ev 7) (ad_cons (ev 1) (ad_cons (ev 3) ad_nil))) (raise_bot_back h hs)) (ev 0) (by exact (cln_sh hs)) (by exact (cln_sh hs)) hr.units)))) (by rw [eqD_t rfl]; rfl)) (ws_nil ?_))
    refine ws_for (xs := s.lns) (f := fun l0 => .str l0.name) (fun _ => [some s.d, some (.int n), some l.d, some (.int (r : Nat)), some p.d, none, none, none, none, none, none, none, none, none, none]) (fun _ M' => M' = []) rfl (tg_n (j := 11) sc__law_right.nd rfl (.inl rfl)) ⟨rfl, rfl, rfl, rfl, rfl, trivial⟩ (iw_listp (ed_lc0 (j := 14) (xs := s.lns) (f := Ln.d) (g := fun l0 => .str l0.name) (iw_tupp (ed_ixT (ev 0) ed_int rfl) ⟨rfl, rfl⟩) rfl sc__law_right.nd (by show BlkOk N__law_right (defScope s__law_right) _ _; exact blkOk_by (by decide +kernel)) (pgB sc__law_right.nd rfl rfl) (by have := hs.l2; omega) (fun x0 h0 _ _ _ _ _ => ?_)) ⟨rfl, rfl⟩) ?_ ?_
    · exact (ed_ixT (ev 14) ed_int rfl)
    · rintro k l0 M' hk rfl
      obtain ⟨l3, h3, e3⟩ := rem_at h hk
      obtain ⟨g2, q2⟩ := shift_good h hs h3
      obtain ⟨b1, b2⟩ := shift_back h h3
      have rs := shift_R h hs h3
      rw [e3] at rs
      have rb : R_shift [(shiS s i l r p k l3).d, .int n, .str l.name] (hiS s i l r p).d := by
        have := shift_R q2 g2 b1
        rw [b2] at this
        exact this
      refine ⟨_, rfl, ?_⟩
      refine ws_cons (w1_setp (ix := 12) (ed_call C_shift (hr.mono (by decide)) (by rfl) (ad_cons (ev 0) (ad_cons (ev 1) (ad_cons (ev 11) ad_nil))) rs) ?_ (by exact sc__law_right.nd) (by rfl) (by first | exact .inl rfl | exact .inr rfl))
      refine ws_cons (w1_ifF (TD.is (td_w (wd_or (td_k kd_neS (ed_ixT (ed_ixT (ed_call C__law_place (hr.mono (by decide)) (by rfl) (ad_cons (ev 12) (ad_cons (ev 1) ad_nil)) (.mk g2 q2)) ed_int rfl) ed_int rfl) (ev 11)) fun hq => (wd_or1 (td_neD (ed_ixT (ed_ixT (ed_ixT (ed_call C__law_place (hr.mono (by decide)) (by rfl) (ad_cons (ev 12) (ad_cons (ev 1) ad_nil)) (.mk g2 q2)) ed_int rfl) ed_int rfl) (ed_neg ed_int) (atI_last (f := Pc.d) (ss := l3.pcs ++ [p]) (a := p) (by simp))) (ev 4) (by exact (cln_pc gp)) (by exact (cln_pc gp)) hr.units)))) (by rw [eqD_t rfl, show (l3.setPcs (l3.pcs ++ [p])).name = l0.name from e3]; simp)) (ws_nil ?_))
      refine ws_cons (w1_ifF (TD.is (td_neD (ed_call C_raise_to (hr.mono (by decide)) (by rfl) (ad_cons (ed_call C_shift (hr.mono (by decide)) (by rfl) (ad_cons (ev 12) (ad_cons (ev 1) (ad_cons (ed_ixT (ev 2) ed_int rfl) ad_nil))) rb) (ad_cons (ev 1) (ad_cons (ev 3) ad_nil))) (raise_top_back h hs)) (ev 0) (by exact (cln_sh hs)) (by exact (cln_sh hs)) hr.units) (by rw [eqD_t rfl]; rfl)) (ws_nil ?_))
      refine ws_one (w1_ifF (td_k (kd_neDict (room_u0 hr) (byRank_same g2 q2.lm)) (ed_call C__law_runs (hr.mono (by decide)) (by rfl) (ad_cons (ev 12) (ad_cons (ev 11) ad_nil)) (.mk g2 q2.lm e3)) (ed_call C__law_by_rank (hr.mono (by decide)) (by rfl) (ad_cons (ev 12) (ad_cons (ev 11) ad_nil)) (by rw [show (l3.setPcs (l3.pcs ++ [p])).name = l0.name from e3]; exact .mk g2))) (ws_nil ?_))
      exact ⟨⟨rfl, rfl, rfl, rfl, rfl, trivial⟩, rfl⟩
    · rintro M' rfl
      refine ws_one (w1_retp ed_bl rfl)
end
end BL
set_option maxHeartbeats 4000000
/-! the pen; the law -/
namespace BL
open PySem PySem.Spec PyProof.Rows L2 Evl
/-- what the pen's maker tells -/
def spPen (K : PySem.W.Frag) : L2.Sp := fun vs H Q _ => ∃ (a : Addr) (ns : List Int), vs = [.ref a] ∧ SqL K H a (ns.map V.int) ∧ ns.length ≤ 63 ∧
  ∀ (H' : Hp) (l q : Addr), Ex H H' → H q = none → H l = none → H' l = some (.lst (ns.map V.int)) → H' q = some (.lst [.ref l, .int 0, .int 0]) → Q (.ref q) H'
theorem cut63 {vs : List V} (h : vs.length ≤ 63) : cutV vs none (some 63) = vs := by
  unfold cutV
  rw [HT.sIx_none, show (some (63 : Int)) = some ((63 : Nat) : Int) from rfl, HT.sIx_nat, Nat.min_eq_right h, List.drop_zero, Nat.sub_zero]
  exact List.take_of_length_le (Nat.le_refl _)
section
variable {W : Wo}
theorem ok_pen {f : Addr} {fd : FuncData} (Z : En W) (F : FunD W.K "_law_pen" "_law_pen" (defArgs s__law_pen) (defBody s__law_pen) (defScope s__law_pen) [] [] f fd) : FnOk W.P W.w W.K W.mg W.base CX0 1 f fd P__law_pen (spPen W.K) := by
  refine F.ok sc__law_pen (fun vs H Q E h => ?_) (fun cdv A outer s H vs Q E hr h => ⟨_, pss_w.nox, ?_⟩)
  · obtain ⟨a, ns, rfl, _⟩ := h
    rfl
  obtain ⟨a, ns, rfl, hS, hl, k⟩ := h
  refine PSs_w (X := bX W "_law_pen" N__law_pen (defScope s__law_pen) f cdv A outer s H E) (pss_one (ps_ret (pe_lst (pa_cons (pe_callTy call_list_of (by rfl) Z.n_list boot_list (pa_cons (pe_slice sl_list (pv 0) po_none (po_some pe_int)) pa_nil) (by decide) (by decide) (by exact st_any rfl)) (pa_cons pe_int (pa_cons pe_int pa_nil) (by exact st_any rfl)) (by exact st_any rfl))))) ?_
  refine ⟨_, rfl, ⟨63, rfl, ⟨a, ns.map V.int, rfl, hS, fun n hn => ?_⟩⟩⟩
  rw [cut63 (by rw [List.length_map]; exact hl)]
  refine ⟨n, _, rfl, .inl (SqL.of upd_same), fun l hl2 => ?_⟩
  refine ⟨by show 3 ≤ sizeLine; decide, fun q hq => ?_⟩
  have e1 : Ex H (upd H n (.lst (ns.map V.int))) := Ex.new hn
  have e2 : Ex (upd H n (.lst (ns.map V.int))) (upd (upd H n (.lst (ns.map V.int))) l (.lst (ns.map V.int))) := Ex.new hl2
  have e3 := Ex.new (o := .lst [.ref l, .int 0, .int 0]) hq
  exact k _ l q ((e1.trans e2).trans e3) (fresh_back (e1.trans e2) hq) (fresh_back e1 hl2) (e3 _ _ upd_same) upd_same
end
theorem sat_of {s : Sh} {p : Pc} (h : p ∈ s.all) : ∃ i l r, Sat s p.n i l r p := by
  obtain ⟨l, h1, h2⟩ := List.mem_flatMap.mp h
  obtain ⟨i, hi⟩ := List.mem_iff_getElem?.mp h1
  obtain ⟨r, hr⟩ := List.mem_iff_getElem?.mp h2
  exact ⟨i, l, r, hi, hr, rfl⟩
theorem place_ok {p : Pc} (h : GPc p) {v : Int} (h0 : 0 ≤ v) (h1 : v < 3 * p.many) : Gf 40 (lowF (3 * p.at_ + v) 3) ∧ 0 ≤ (lowF (3 * p.at_ + v) 3).1 ∧ coversB p (lowF (3 * p.at_ + v) 3) = true := by
  have a1 := h.a1
  have a2 := h.a2
  have m1 := h.m1
  have m2 := h.m2
  refine ⟨(low_gf (by decide) (bt32 (by omega) (by omega)) (bt32 (by decide) (by decide))).up (by decide), low_nn (by decide) (by omega), ?_⟩
  obtain ⟨e1, e2⟩ := lowF_mul (t := 3 * p.at_ + v) (b := 3) (by decide)
  have g0 := gcdI_pos (a := 3 * p.at_ + v) (b := 3) (by decide)
  have b0 := lowF_pos (t := 3 * p.at_ + v) (b := 3) (by decide)
  generalize lowF (3 * p.at_ + v) 3 = x at *
  generalize gcdI (3 * p.at_ + v) 3 = g at *
  obtain ⟨t, b⟩ := x
  have e1 : t * g = 3 * p.at_ + v := e1
  have e2 : b * g = 3 := e2
  have b0 : 0 < b := b0
  have hb : b ≤ 3 := by
    have := Int.mul_le_mul_of_nonneg_left (show 1 ≤ g by omega) (Int.le_of_lt b0)
    omega
  have hc : (b = 1 ∧ g = 3) ∨ (b = 3 ∧ g = 1) := by
    have : b = 1 ∨ b = 2 ∨ b = 3 := by omega
    rcases this with rfl | rfl | rfl <;> omega
  unfold coversB lessB
  show (!decide (t * 1 < p.at_ * b) && decide (t * 1 < (p.at_ + p.many) * b)) = true
  rcases hc with ⟨rfl, rfl⟩ | ⟨rfl, rfl⟩
  · rw [decide_eq_false (by omega), decide_eq_true (by omega)]; rfl
  · rw [decide_eq_false (by omega), decide_eq_true (by omega)]; rfl
section
variable {W : Wo} {T : Tb}
theorem law_rest (Z : En W) (C__law_good_sheet : CalP W T 7 "_law_good_sheet" P__law_good_sheet G__law_good_sheet) (C__law_pieces_of : Cal W T 1 "_law_pieces_of" P__law_pieces_of R__law_pieces_of) (C__law_place : Cal W T 1 "_law_place" P__law_place R__law_place) (C__law_low : Cal W T 1 "_law_low" P__law_low R__law_low) (C_raise_to : Cal W T 10 "raise_to" P_raise_to R_raise_to) (C__law_mul : Cal W T 2 "_law_mul" P__law_mul R__law_mul) (C_shift : Cal W T 10 "shift" P_shift R_shift) (C__law_right : Cal W T 12 "_law_right" P__law_right R__law_right) (C_sound_at : Cal W T 12 "sound_at" P_sound_at R_sound_at) (C__law_draw : CalP W T 1 "_law_draw" P__law_draw G__law_draw) (C_lane_at : Cal W T 13 "lane_at" P_lane_at R_lane_at) (C__law_runs : Cal W T 11 "_law_runs" P__law_runs R__law_runs) (C__law_by_rank : Cal W T 2 "_law_by_rank" P__law_by_rank R__law_by_rank)
    (f : Addr) (cdv : Value) (Ar : Around) (outer : List Env) (s0 : Shared) (H : Hp) (E : XK) (hr : Room 13 (Ar.deeper (envOfC "law" (defScope s_law) s0.heap.objs.size f cdv))) (a0 pn : Addr) :
    WS T (bX W "law" N_law (defScope s_law) f cdv Ar outer s0 H E) ((defBody s_law).drop 1) [some (.adr a0), some (.adr pn), none, none, none, none, none, none, none, none, none, none] [(pn, .pen 0)] { nx := fun _ _ => False, rt := fun d' _ => d' = .bl true } := by
    refine ws_cons ?_
    refine w1_set (ix := 2) (hs := ?_) (hf := ?_) ?_ ?_ ?_ ?_
    case refine_2 => exact sc_law.nd
    case refine_3 => rfl
    case refine_4 => first | exact .inl rfl | exact .inr rfl
    case refine_5 => rfl
    case refine_6 => first | exact .inl rfl | exact .inr rfl
    refine we_pc C__law_good_sheet (hr.mono (by decide)) (by rfl) (ad_cons (ev 1) ad_nil) ⟨rfl, by decide, fun s k1 hs hk1 => ?_⟩
    refine ws_cons ?_
    refine w1_for PassesOwn.never rfl (tg_n (j := 3) sc_law.nd rfl (.inl rfl)) (Ψ := fun ds M' => ds = rgD 0 8 ∧ M' = [(pn, .pen k1)]) (iw_rng1 (by rfl) Z.n_range (wa_p (ad_cons ed_int ad_nil) ⟨8, rfl, by decide, by decide, rfl, rfl⟩)) ?_
    rintro ds M1 ⟨rfl, rfl⟩
    refine ⟨fun i ρ' M' => ∃ (s : Sh) (k' : Nat) (x3 x4 x5 x6 x7 x8 x9 x10 x11 : Option Dt), ρ' = [some (.adr a0), some (.adr pn), some s.d, x3, x4, x5, x6, x7, x8, x9, x10, x11] ∧ M' = [(pn, .pen k')] ∧ GSh s ∧ k' ≤ 21000 + 3 * i, ?_, ?_, ?_⟩
    · exact ⟨s, k1, _, _, _, _, _, _, _, _, _, rfl, rfl, hs, by omega⟩
    · clear hk1 hs s k1
      rintro bi d ρ' M' hd ⟨s, k', x3, x4, x5, x6, x7, x8, x9, x10, x11, rfl, rfl, hs, hk'⟩
      obtain ⟨hi8, rfl⟩ := rgD_get hd
      have h14 := hs.all
      refine ⟨_, rfl, ?_⟩
      refine ws_cons (w1_setp (ix := 4) (ed_call C__law_pieces_of (hr.mono (by decide)) (by rfl) (ad_cons (ev 2) ad_nil) (.mk hs)) ?_ (by exact sc_law.nd) (by rfl) (by first | exact .inl rfl | exact .inr rfl))
      have clp : Cln 12 (.lst (s.all.map Pc.d)) := cln_mapL fun q hq => cln_pc (all_gpc hs q hq)
      by_cases hall : s.all = []
      · refine ws_one (w1_ifF (TD.is (td_neD (ev 4) (ed_lst ad_nil) (by exact clp) (by exact cln_lnil) hr.units) (by rw [eqD_nil, hall]; rfl)) (ws_nil ?_))
        exact ⟨s, k', _, _, _, _, _, _, _, _, _, rfl, rfl, hs, by omega⟩
      refine ws_one (w1_ifT (TD.is (td_neD (ev 4) (ed_lst ad_nil) (by exact clp) (by exact cln_lnil) hr.units) (by rw [eqD_nil]; simpa using hall)) ?_)
      obtain ⟨p0, hp0⟩ : ∃ p0, p0 ∈ s.all := List.exists_mem_of_ne_nil _ hall
      have hpl : 0 < ((s.all.map Pc.d).length : Int) ∧ ((s.all.map Pc.d).length : Int) ≤ 14 := by
        have := List.length_pos_of_mem hp0
        rw [List.length_map]
        omega
      refine ws_cons ?_
      refine w1_set (ix := 5) (hs := ?_) (hf := ?_) ?_ ?_ ?_ ?_
      case refine_2 => exact sc_law.nd
      case refine_3 => rfl
      case refine_4 => first | exact .inl rfl | exact .inr rfl
      case refine_5 => rfl
      case refine_6 => first | exact .inl rfl | exact .inr rfl
      refine we_ixT' ?_
      refine we_ixL' ?_
      refine we_p (ev 4) ?_
      refine we_pc C__law_draw (hr.mono (by decide)) (by rfl) (ad_cons (ev 1) (ad_cons (ed_b (bd_lenL Z.n_len) (by rfl) (ad_cons (ev 4) ad_nil)) ad_nil)) ⟨_, rfl, (by omega), (by omega), (by first | omega | (unfold mostDraws at *; omega)), fun v1 k1 a1 b1 c1 => ?_⟩
      refine ⟨_, _, _, rfl, rfl, (atI_any (f := Pc.d) p0 a1 b1), ?_⟩
      refine we_p ed_int ?_
      refine ⟨_, _, _, rfl, rfl, rfl, ?_⟩
      have hpm := (getD_mem (f := Pc.d) p0 a1 b1).1
      generalize s.all.getD v1.toNat p0 = p at *
      obtain ⟨i, l, r, sat⟩ := sat_of hpm
      generalize hpn : p.n = n at *
      have gp := sat.gp hs
      have gl := hs.lns l sat.lm
      obtain ⟨n1, n2⟩ := sat.n1 hs
      have ga1 := gp.a1
      have ga2 := gp.a2
      have gm1 := gp.m1
      have gm2 := gp.m2
      obtain ⟨tk, htk, etk⟩ : ∃ tk, tk ∈ s.tks ∧ tk.name = p.take := by
        obtain ⟨tk, h1, h2⟩ := List.mem_map.mp (hs.tkd p hpm)
        exact ⟨tk, h1, h2⟩
      have htb : tkBy s p.take = some tk := by rw [← etk]; exact find_nd hs.tkn htk
      have gtk := hs.tks tk htk
      obtain ⟨gh, sath⟩ := raise_good sat hs (Nat.le_refl _)
      have htbh : tkBy (hiS s i l r p) p.take = some tk := htb
      refine ws_cons (w1_ifF (TD.is (td_not (td_val (ed_call C__law_right (hr.mono (by decide)) (by rfl) (ad_cons (ev 2) (ad_cons (ev 5) ad_nil)) (.mk hs sat)))) rfl) (ws_nil ?_))
      refine ws_cons (w1_unpp (ed_call C__law_place (hr.mono (by decide)) (by rfl) (ad_cons (ev 2) (ad_cons (ev 5) ad_nil)) (.mk hs sat)) rfl ?_ rfl (tgc (i := 6) (tgc (i := 7) (tgc (i := 8) Tg.nil (by exact sc_law.nd)) (by exact sc_law.nd)) (by exact sc_law.nd)))
      refine ws_cons ?_
      refine w1_set (ix := 9) (hs := ?_) (hf := ?_) ?_ ?_ ?_ ?_
      case refine_2 => exact sc_law.nd
      case refine_3 => rfl
      case refine_4 => first | exact .inl rfl | exact .inr rfl
      case refine_5 => rfl
      case refine_6 => first | exact .inl rfl | exact .inr rfl
      refine we_call C__law_low (hr.mono (by decide)) (by rfl) ?_
      refine wa_cons' ?_
      refine we_add' ?_
      refine we_p (ed_mul ed_int (ed_ixT (ev 8) ed_int rfl) (bt32 (by decide) (by decide)) (bt32 ga1 (by omega))) ?_
      refine we_pc C__law_draw (hr.mono (by decide)) (by rfl) (ad_cons (ev 1) (ad_cons (ed_mul ed_int (ed_ixT (ev 8) ed_int rfl) (bt32 (by decide) (by decide)) (bt32 (by omega) (by omega))) ad_nil)) ⟨_, rfl, (by omega), (by omega), (by first | omega | (unfold mostDraws at *; omega)), fun v2 k2 a2 b2 c2 => ?_⟩
      refine ⟨_, _, rfl, rfl, ?_⟩
      refine wa_p (ad_cons ed_int ad_nil) ?_
      refine ⟨rfl, _, (R__law_low.mk (n := 32) (by decide) (bt32 (by decide) (by decide)) (by decide)), ?_⟩
      obtain ⟨px, px0, pcv⟩ := place_ok gp a2 b2
      generalize lowF (3 * p.at_ + v2) 3 = x at *
      have hcn := contF_nn hs.tm gp px.pos pcv
      have hlv : FBp 400 (levF p.shape (minusF x (p.at_, 1))) := levF_fb gp.sh ((minusF_fb px.fb (at_fb gp)).up (by decide))
      have hsn : FBp 440 (soundF s.tm tk.tones p x) := timesF_fb (as_fb (toneF_bt gtk) (by decide)) hlv
      refine ws_cons (w1_setp (ix := 10) (ed_call C_raise_to (hr.mono (by decide)) (by rfl) (ad_cons (ev 2) (ad_cons (ev 5) (ad_cons (ed_sub (ed_b (bd_lenT Z.n_len) (by rfl) (ad_cons (ed_ixT (ev 6) ed_int rfl) ad_nil)) ed_int) ad_nil))) (raise_top sat hs)) ?_ (by exact sc_law.nd) (by rfl) (by first | exact .inl rfl | exact .inr rfl))
      refine ws_cons (w1_setp (ix := 11) (ed_call C__law_mul (hr.mono (by decide)) (by rfl) (ad_cons (ed_ixT (ev 6) ed_int rfl) (ad_cons (ed_call C_sound_at (hr.mono (by decide)) (by rfl) (ad_cons (ev 2) (ad_cons (ev 5) (ad_cons (ev 9) ad_nil))) (.mk hs gp (sat.pcBy hs) n1 n2 htb gtk px px0 hcn pcv)) ad_nil)) (.mk gl.g.fb hsn (by decide))) ?_ (by exact sc_law.nd) (by rfl) (by first | exact .inl rfl | exact .inr rfl))
      refine ws_mid (fun ρ' M' => ρ' = [some (.adr a0), some (.adr pn), some s.d, some (.int (0 + (bi : Nat))), some (.lst (s.all.map Pc.d)), some (.int n), some l.d, some (.int (r : Nat)), some p.d, some (frp x), some (hiS s i l r p).d, some (frp (timesF l.gain (soundF s.tm tk.tones p x)))] ∧ M' = [(pn, .pen k2)]) ?_ ?_
      · by_cases hsil : l.silent = 0
        · refine w1_ifF (TD.is (td_w (wd_and (td_k kd_eqI (ed_ixT (ev 6) ed_int rfl) ed_int) fun hq => (wd_and1 (td_neD (ed_call C_lane_at (hr.mono (by decide)) (by rfl) (ad_cons (ev 10) (ad_cons (ed_ixT (ev 6) ed_int rfl) (ad_cons (ev 9) ad_nil))) (R_lane_at.mk (s := hiS s i l r p) (l := hiL l r p) gh (lnBy_of gh.lnn sath.lm) (gh.lns _ sath.lm) (by unfold hiL; rw [ins_top]; exact hi_top pcv) hsil htbh gtk px px0 hcn)) (ev 11) (by exact cln_fr) (by exact cln_fr) hr.units)))) ?_) (ws_nil ⟨rfl, rfl⟩)
          show (decide (l.silent = 0) && !eqD (frp (timesF l.gain (soundF s.tm tk.tones p x))) (frp (timesF l.gain (soundF s.tm tk.tones p x)))) = false
          rw [eqD_t rfl]
          exact Bool.and_false _
        · exact w1_ifF (TD.is (td_w (wd_andF (TD.is (td_k kd_eqI (ed_ixT (ev 6) ed_int rfl) ed_int) (decide_eq_false hsil)))) rfl) (ws_nil ⟨rfl, rfl⟩)
      · rintro ρ' M' ⟨rfl, rfl⟩
        have hll : 0 < ((s.lns.map Ln.d).length : Int) ∧ ((s.lns.map Ln.d).length : Int) ≤ 4 := by
          have := hs.l1
          have := hs.l2
          rw [List.length_map]
          omega
        refine ws_one ?_
        refine w1_set (ix := 2) (hs := ?_) (hf := ?_) ?_ ?_ ?_ ?_
        case refine_2 => exact sc_law.nd
        case refine_3 => rfl
        case refine_4 => first | exact .inl rfl | exact .inr rfl
        case refine_5 => rfl
        case refine_6 => first | exact .inl rfl | exact .inr rfl
        refine we_call C_shift (hr.mono (by decide)) (by rfl) ?_
        refine wa_cons' ?_
        refine we_p (ev 2) ?_
        refine wa_cons' ?_
        refine we_p (ev 5) ?_
        refine wa_cons' ?_
        refine we_ixT' ?_
        refine we_ixT' ?_
        refine we_p (ed_ixT (ev 2) ed_int rfl) ?_
        refine we_pc C__law_draw (hr.mono (by decide)) (by rfl) (ad_cons (ev 1) (ad_cons (ed_b (bd_lenT Z.n_len) (by rfl) (ad_cons (ed_ixT (ev 2) ed_int rfl) ad_nil)) ad_nil)) ⟨_, rfl, (by omega), (by omega), (by first | omega | (unfold mostDraws at *; omega)), fun v3 k3 a3 b3 c3 => ?_⟩
        refine ⟨_, _, _, rfl, rfl, (atI_any (f := Ln.d) l a3 b3), ?_⟩
        refine we_p ed_int ?_
        refine ⟨_, _, _, rfl, rfl, rfl, ?_⟩
        refine wa_p ad_nil ?_
        have hl0 := (getD_mem (f := Ln.d) l a3 b3).2
        generalize s.lns.getD v3.toNat l = l0 at *
        obtain ⟨l3, h3, e3⟩ := rem_at sat hl0
        have rs := shift_R sat hs h3
        rw [e3] at rs
        refine ⟨rfl, _, rs, ?_⟩
        exact ⟨_, k3, _, _, _, _, _, _, _, _, _, rfl, rfl, (shift_good sat hs h3).1, by omega⟩
    · clear hk1 hs s k1
      rintro ρ' M' ⟨s, k', x3, x4, x5, x6, x7, x8, x9, x10, x11, rfl, rfl, hs, hk'⟩
      refine ws_one (w1_retp (ED.is (ed_eqD (ed_lc1 (j := 6) (xs := s.lns) (f := Ln.d) (g := Ln.d) (b := fun _ => false) (iw_tupp (ed_ixT (ev 2) ed_int rfl) ⟨rfl, rfl⟩) rfl sc_law.nd (by show BlkOk N_law (defScope s_law) _ _; exact blkOk_by (by decide +kernel)) (pgB sc_law.nd rfl rfl) (by have := hs.l2; omega) (fun x0 h0 _ _ _ _ _ => td_k (kd_neDict (room_u0 hr) (byRank_same hs h0)) (ed_call C__law_runs (hr.mono (by decide)) (by rfl) (ad_cons (ev 2) (ad_cons (ed_ixT (ev 6) ed_int rfl) ad_nil)) (.mk hs h0 rfl)) (ed_call C__law_by_rank (hr.mono (by decide)) (by rfl) (ad_cons (ev 2) (ad_cons (ed_ixT (ev 6) ed_int rfl) ad_nil)) (.mk hs))) (fun x0 h0 _ _ _ _ _ _ => (ev 6))) (ed_lst ad_nil) (cln_mapL fun q hq => cln_ln (hs.lns q (List.mem_filter.mp hq).1)) cln_lnil hr.units) ?_) rfl)
      rw [eqD_nil]
      simp
end
end BL
set_option maxHeartbeats 0
/-! the defs' promises put together; the law's promise; the row -/
namespace BL
open PySem PySem.Spec PyProof.Rows L2 Evl LamX
section
variable {P : Program} {w : World} {K : PySem.W.Frag} {mg : Str → Option Value} {base h : Heap}
theorem at_of (X : K.In h) (G : h.Ns mainGlobals mg) (c : He.SaysD BHead.fa BHead.fn K) {x : Str} (i j k : Nat) (h1 : BHead.fn[i]? = some (BHead.dOf x k) := by rfl) (h2 : BHead.fa[j]? = some (.glo x) := by rfl) : At ⟨P, w, K, mg, base⟩ x (top k) := by
  obtain ⟨fd, F⟩ := c.def_ i h1
  exact ⟨_, fd, F, He.glo_ok X G (c.fact j h2)⟩
theorem atL_of (X : K.In h) (G : h.Ns mainGlobals mg) (c : He.SaysD BHead.fa BHead.fn K) {x : Str} (i j k : Nat) (tb : TabB base mg (He.cT K (x, none)).1 (He.cT K (x, none)).2) (h1 : BHead.fn[i]? = some (BHead.dOf x k) := by rfl) (h2 : BHead.fa[j]? = some (.glo x) := by rfl) : AtL ⟨P, w, K, mg, base⟩ x (top k) (He.cT K (x, none)).1 (He.cT K (x, none)).2 := by
  obtain ⟨fd, F⟩ := c.def_ i h1
  obtain ⟨oc, od, dV, kV, doc, pm, an, cdv, ct, osl, e, lk, hcd, hd, hk⟩ := F.ex
  obtain ⟨c', rfl⟩ := He.codeIn_ref hcd
  have ec : (He.cT K (x, none)).1 = c' := He.codeOf_eq lk (by rw [e])
  refine ⟨⟨_, oc, od, dV, kV, doc, pm, an, ct, osl, fd, ?_, lk, ?_, F, He.glo_ok X G (c.fact j h2)⟩, tb⟩
  · rw [ec]; exact e
  · rw [ec]; exact hcd
theorem glo_int (X : K.In h) (G : h.Ns mainGlobals mg) (c : He.SaysD BHead.fa BHead.fn K) {x : Str} {z : Int} (j : Nat) (h2 : BHead.fa[j]? = some (.int x z) := by rfl) : Glo K mg x (.int z) := by
  obtain ⟨t, e⟩ := He.int_ok X G (c.fact j h2)
  exact ⟨.int z, _, e, ⟨t, rfl⟩, fun F => rp_int.mpr rfl⟩
theorem glo_str (X : K.In h) (G : h.Ns mainGlobals mg) (c : He.SaysD BHead.fa BHead.fn K) {x z : Str} (j : Nat) (h2 : BHead.fa[j]? = some (.str x z) := by rfl) : Glo K mg x (.str z) := by
  obtain ⟨t, e⟩ := He.str_ok X G (c.fact j h2)
  exact ⟨.str z, _, e, ⟨t, rfl⟩, fun F => rp_str.mpr rfl⟩
theorem glo_tup (X : K.In h) (G : h.Ns mainGlobals mg) (c : He.SaysD BHead.fa BHead.fn K) {x : Str} {vs : List He.Dv} {ds : List Dt} (j : Nat) (ht : He.tupB K x vs = true) (hr : ∀ F, Rps K F (vs.map (He.Dv.v K)) ds) (h2 : BHead.fa[j]? = some (.glo x) := by rfl) : Glo K mg x (.tup ds) :=
  ⟨.ref (He.ga K x), _, He.glo_ok X G (c.fact j h2), rfl, fun F => rp_tup.mpr ⟨_, _, rfl, He.tupB_ok ht F, hr F⟩⟩

theorem en_of (X : K.In h) (G : h.Ns mainGlobals mg) (c : He.SaysD BHead.fa BHead.fn K) (ex : BHead.exB K = true) : En ⟨P, w, K, mg, base⟩ := by
  obtain ⟨x1, x2⟩ := He.ba ex
  obtain ⟨x2, _⟩ := He.ba x2
  exact {
    n_abs := He.free_ok X G (c.fact 89 (f := .free "abs") rfl)
    n_all := He.free_ok X G (c.fact 90 (f := .free "all") rfl)
    n_any := He.free_ok X G (c.fact 91 (f := .free "any") rfl)
    n_bool := He.free_ok X G (c.fact 92 (f := .free "bool") rfl)
    n_dict := He.free_ok X G (c.fact 93 (f := .free "dict") rfl)
    n_enumerate := He.free_ok X G (c.fact 94 (f := .free "enumerate") rfl)
    n_int := He.free_ok X G (c.fact 95 (f := .free "int") rfl)
    n_isinstance := He.free_ok X G (c.fact 96 (f := .free "isinstance") rfl)
    n_len := He.free_ok X G (c.fact 97 (f := .free "len") rfl)
    n_list := He.free_ok X G (c.fact 98 (f := .free "list") rfl)
    n_max := He.free_ok X G (c.fact 99 (f := .free "max") rfl)
    n_min := He.free_ok X G (c.fact 100 (f := .free "min") rfl)
    n_range := He.free_ok X G (c.fact 101 (f := .free "range") rfl)
    n_reversed := He.free_ok X G (c.fact 102 (f := .free "reversed") rfl)
    n_set := He.free_ok X G (c.fact 103 (f := .free "set") rfl)
    n_sorted := He.free_ok X G (c.fact 104 (f := .free "sorted") rfl)
    n_str := He.free_ok X G (c.fact 105 (f := .free "str") rfl)
    n_sum := He.free_ok X G (c.fact 106 (f := .free "sum") rfl)
    n_tuple := He.free_ok X G (c.fact 107 (f := .free "tuple") rfl)
    n_zip := He.free_ok X G (c.fact 108 (f := .free "zip") rfl)
    g_NOUGHT := glo_tup X G c 122 x1 fun F => .cons (rp_int.mpr rfl) (.cons (rp_int.mpr rfl) .nil)
    g_WAYS := glo_tup X G c 123 x2 fun F => .cons (rp_str.mpr rfl) (.cons (rp_str.mpr rfl) .nil)
    g_LETTERS := glo_str X G c 121
    g_MOST_STRETCHES := glo_int X G c 109
    g_MOST_LAID := glo_int X G c 110
    g_LONGEST_NAME := glo_int X G c 111
    g_MOST_TONES := glo_int X G c 112
    g_LOUDEST_TONE := glo_int X G c 113
    g_MOST_CORNERS := glo_int X G c 114
    g_MOST_NUMBER := glo_int X G c 115
    g_LAST_STEP := glo_int X G c 116
    g_MOST_LANES := glo_int X G c 117
    g_MOST_TAKES := glo_int X G c 118
    g_MOST_PIECES := glo_int X G c 119
    g_PIECE_PARTS := glo_int X G c 120
  }
abbrev tabT (K : PySem.W.Frag) : List (Addr × Str) := [((He.cT K ("fault_of_takes", none)).2, ("fault_of_takes.<locals>.<lambda>" : Str)), ((He.cT K ("fault_of_lanes", none)).2, ("fault_of_lanes.<locals>.<lambda>" : Str))]
/-- what the law is told, what it tells -/
def spL (K : PySem.W.Frag) : L2.Sp := fun vs H Q _ => ∃ (a : Addr) (ns : List Int), vs = [.ref a] ∧ SqL K H a (ns.map V.int) ∧ ns.length ≤ 63 ∧ Tabs (tabT K) H ∧ ∀ H', Q (.bl true) H'

theorem ok_law (X : K.In h) (G : h.Ns mainGlobals mg) (c : He.SaysD BHead.fa BHead.fn K) (ex : BHead.exB K = true) (tb1 : TabB base mg (He.cT K ("fault_of_takes", none)).1 (He.cT K ("fault_of_takes", none)).2) (tb2 : TabB base mg (He.cT K ("fault_of_lanes", none)).1 (He.cT K ("fault_of_lanes", none)).2) {f : Addr} {fd : FuncData} (FL : FunD K "law" "law" (defArgs s_law) (defBody s_law) (defScope s_law) [] [] f fd) : FnOk P w K mg base CX0 14 f fd P_law (spL K) := by
  obtain ⟨W, eW⟩ : ∃ W : Wo, W = ⟨P, w, K, mg, base⟩ := ⟨_, rfl⟩
  obtain ⟨T, eT⟩ : ∃ T : Tb, T = ⟨tabT K, fun _ => none⟩ := ⟨_, rfl⟩
  have hne : (He.cT K ("fault_of_takes", none)).2 ≠ (He.cT K ("fault_of_lanes", none)).2 := by
    have q := (He.ba (He.ba ex).2).2
    simpa using q
  have hmT_fault_of_takes : ((He.cT K ("fault_of_takes", none)).2, ("fault_of_takes.<locals>.<lambda>" : Str)) ∈ T.tabs := by rw [eT]; exact List.mem_cons_self
  have hmT_fault_of_lanes : ((He.cT K ("fault_of_lanes", none)).2, ("fault_of_lanes.<locals>.<lambda>" : Str)) ∈ T.tabs := by rw [eT]; exact List.mem_cons_of_mem _ List.mem_cons_self
  have hu_fault_of_takes : ∀ p ∈ T.tabs, p.1 = (He.cT K ("fault_of_takes", none)).2 → p.2 = ("fault_of_takes.<locals>.<lambda>" : Str) := by
    rw [eT]
    intro p hp e
    rcases List.mem_cons.mp hp with rfl | hp
    · rfl
    · rw [List.mem_singleton.mp hp] at e
      exact absurd e.symm hne
  have hu_fault_of_lanes : ∀ p ∈ T.tabs, p.1 = (He.cT K ("fault_of_lanes", none)).2 → p.2 = ("fault_of_lanes.<locals>.<lambda>" : Str) := by
    rw [eT]
    intro p hp e
    rcases List.mem_cons.mp hp with rfl | hp
    · exact absurd e hne
    · rw [List.mem_singleton.mp hp]
  have Z : En W := by rw [eW]; exact en_of X G c ex
  have A__law_above : At W "_law_above" s__law_above := by rw [eW]; exact at_of X G c 72 72 101
  have A__law_by_rank : At W "_law_by_rank" s__law_by_rank := by rw [eW]; exact at_of X G c 86 86 115
  have A__law_div : At W "_law_div" s__law_div := by rw [eW]; exact at_of X G c 69 69 98
  have A__law_draw : At W "_law_draw" s__law_draw := by rw [eW]; exact at_of X G c 65 65 94
  have A__law_from : At W "_law_from" s__law_from := by rw [eW]; exact at_of X G c 73 73 102
  have A__law_goes_on : At W "_law_goes_on" s__law_goes_on := by rw [eW]; exact at_of X G c 74 74 103
  have A__law_good_sheet : At W "_law_good_sheet" s__law_good_sheet := by rw [eW]; exact at_of X G c 83 83 112
  have A__law_low : At W "_law_low" s__law_low := by rw [eW]; exact at_of X G c 66 66 95
  have A__law_mul : At W "_law_mul" s__law_mul := by rw [eW]; exact at_of X G c 68 68 97
  have A__law_names : At W "_law_names" s__law_names := by rw [eW]; exact at_of X G c 70 70 99
  have A__law_numbers : At W "_law_numbers" s__law_numbers := by rw [eW]; exact at_of X G c 71 71 100
  have A__law_piece : At W "_law_piece" s__law_piece := by rw [eW]; exact at_of X G c 79 79 108
  have A__law_pieces_of : At W "_law_pieces_of" s__law_pieces_of := by rw [eW]; exact at_of X G c 82 82 111
  have A__law_place : At W "_law_place" s__law_place := by rw [eW]; exact at_of X G c 81 81 110
  have A__law_plain : At W "_law_plain" s__law_plain := by rw [eW]; exact at_of X G c 77 77 106
  have A__law_right : At W "_law_right" s__law_right := by rw [eW]; exact at_of X G c 87 87 116
  have A__law_runs : At W "_law_runs" s__law_runs := by rw [eW]; exact at_of X G c 85 85 114
  have A__law_shape : At W "_law_shape" s__law_shape := by rw [eW]; exact at_of X G c 78 78 107
  have A__law_sheet : At W "_law_sheet" s__law_sheet := by rw [eW]; exact at_of X G c 80 80 109
  have A__law_steps : At W "_law_steps" s__law_steps := by rw [eW]; exact at_of X G c 84 84 113
  have A__law_sub : At W "_law_sub" s__law_sub := by rw [eW]; exact at_of X G c 67 67 96
  have A__law_take : At W "_law_take" s__law_take := by rw [eW]; exact at_of X G c 76 76 105
  have A__law_tempo : At W "_law_tempo" s__law_tempo := by rw [eW]; exact at_of X G c 75 75 104
  have A_are_tones : At W "are_tones" s_are_tones := by rw [eW]; exact at_of X G c 26 26 52
  have A_as_fraction : At W "as_fraction" s_as_fraction := by rw [eW]; exact at_of X G c 14 14 24
  have A_content_by : At W "content_by" s_content_by := by rw [eW]; exact at_of X G c 51 51 78
  have A_covers : At W "covers" s_covers := by rw [eW]; exact at_of X G c 49 49 76
  have A_divisor : At W "divisor" s_divisor := by rw [eW]; exact at_of X G c 2 2 12
  have A_far_between : At W "far_between" s_far_between := by rw [eW]; exact at_of X G c 29 29 55
  have A_fault_of : At W "fault_of" s_fault_of := by rw [eW]; exact at_of X G c 40 40 66
  have A_fault_of_lanes : AtL W "fault_of_lanes" s_fault_of_lanes (He.cT K ("fault_of_lanes", none)).1 (He.cT K ("fault_of_lanes", none)).2 := by rw [eW]; exact atL_of X G c 38 38 64 tb2
  have A_fault_of_pieces : At W "fault_of_pieces" s_fault_of_pieces := by rw [eW]; exact at_of X G c 39 39 65
  have A_fault_of_takes : AtL W "fault_of_takes" s_fault_of_takes (He.cT K ("fault_of_takes", none)).1 (He.cT K ("fault_of_takes", none)).2 := by rw [eW]; exact atL_of X G c 37 37 63 tb1
  have A_first_where : At W "first_where" s_first_where := by rw [eW]; exact at_of X G c 35 35 61
  have A_floor_of : At W "floor_of" s_floor_of := by rw [eW]; exact at_of X G c 13 13 23
  have A_fraction : At W "fraction" s_fraction := by rw [eW]; exact at_of X G c 7 7 17
  have A_go_on : At W "go_on" s_go_on := by rw [eW]; exact at_of X G c 18 18 31
  have A_gone_through : At W "gone_through" s_gone_through := by rw [eW]; exact at_of X G c 50 50 77
  have A_growth : At W "growth" s_growth := by rw [eW]; exact at_of X G c 17 17 30
  have A_highest_by : At W "highest_by" s_highest_by := by rw [eW]; exact at_of X G c 55 55 82
  have A_is_above : At W "is_above" s_is_above := by rw [eW]; exact at_of X G c 6 6 16
  have A_is_corner : At W "is_corner" s_is_corner := by rw [eW]; exact at_of X G c 28 28 54
  have A_is_fraction : At W "is_fraction" s_is_fraction := by rw [eW]; exact at_of X G c 4 4 14
  have A_is_from : At W "is_from" s_is_from := by rw [eW]; exact at_of X G c 1 1 11
  have A_is_laid : At W "is_laid" s_is_laid := by rw [eW]; exact at_of X G c 32 32 58
  have A_is_lane : At W "is_lane" s_is_lane := by rw [eW]; exact at_of X G c 34 34 60
  have A_is_less : At W "is_less" s_is_less := by rw [eW]; exact at_of X G c 12 12 22
  have A_is_name : At W "is_name" s_is_name := by rw [eW]; exact at_of X G c 25 25 51
  have A_is_not_below : At W "is_not_below" s_is_not_below := by rw [eW]; exact at_of X G c 5 5 15
  have A_is_piece : At W "is_piece" s_is_piece := by rw [eW]; exact at_of X G c 33 33 59
  have A_is_shape : At W "is_shape" s_is_shape := by rw [eW]; exact at_of X G c 31 31 57
  have A_is_stretch : At W "is_stretch" s_is_stretch := by rw [eW]; exact at_of X G c 16 16 29
  have A_is_take : At W "is_take" s_is_take := by rw [eW]; exact at_of X G c 27 27 53
  have A_is_tempo : At W "is_tempo" s_is_tempo := by rw [eW]; exact at_of X G c 19 19 32
  have A_is_whole : At W "is_whole" s_is_whole := by rw [eW]; exact at_of X G c 0 0 10
  have A_lane_at : At W "lane_at" s_lane_at := by rw [eW]; exact at_of X G c 59 59 86
  have A_lane_by : At W "lane_by" s_lane_by := by rw [eW]; exact at_of X G c 42 42 68
  have A_lane_by_place : At W "lane_by_place" s_lane_by_place := by rw [eW]; exact at_of X G c 56 56 83
  have A_lane_of : At W "lane_of" s_lane_of := by rw [eW]; exact at_of X G c 45 45 71
  have A_length_at : At W "length_at" s_length_at := by rw [eW]; exact at_of X G c 21 21 34
  have A_level_by : At W "level_by" s_level_by := by rw [eW]; exact at_of X G c 52 52 79
  have A_lies_straight : At W "lies_straight" s_lies_straight := by rw [eW]; exact at_of X G c 30 30 56
  have A_line_at : At W "line_at" s_line_at := by rw [eW]; exact at_of X G c 20 20 33
  have A_looked_up : At W "looked_up" s_looked_up := by rw [eW]; exact at_of X G c 57 57 84
  have A_lowest : At W "lowest" s_lowest := by rw [eW]; exact at_of X G c 3 3 13
  have A_minus : At W "minus" s_minus := by rw [eW]; exact at_of X G c 9 9 19
  have A_moment_by : At W "moment_by" s_moment_by := by rw [eW]; exact at_of X G c 23 23 36
  have A_must_be_place : At W "must_be_place" s_must_be_place := by rw [eW]; exact at_of X G c 24 24 37
  have A_must_be_sheet : At W "must_be_sheet" s_must_be_sheet := by rw [eW]; exact at_of X G c 41 41 67
  have A_numbered : At W "numbered" s_numbered := by rw [eW]; exact at_of X G c 36 36 62
  have A_over : At W "over" s_over := by rw [eW]; exact at_of X G c 11 11 21
  have A_part_way : At W "part_way" s_part_way := by rw [eW]; exact at_of X G c 15 15 25
  have A_piece_by : At W "piece_by" s_piece_by := by rw [eW]; exact at_of X G c 44 44 70
  have A_plus : At W "plus" s_plus := by rw [eW]; exact at_of X G c 8 8 18
  have A_raise_to : At W "raise_to" s_raise_to := by rw [eW]; exact at_of X G c 63 63 91
  have A_runs_by : At W "runs_by" s_runs_by := by rw [eW]; exact at_of X G c 60 60 87
  have A_runs_of : At W "runs_of" s_runs_of := by rw [eW]; exact at_of X G c 61 61 88
  have A_shift : At W "shift" s_shift := by rw [eW]; exact at_of X G c 62 62 90
  have A_sound_at : At W "sound_at" s_sound_at := by rw [eW]; exact at_of X G c 58 58 85
  have A_sound_by : At W "sound_by" s_sound_by := by rw [eW]; exact at_of X G c 54 54 81
  have A_sum_ahead : At W "sum_ahead" s_sum_ahead := by rw [eW]; exact at_of X G c 22 22 35
  have A_take_by : At W "take_by" s_take_by := by rw [eW]; exact at_of X G c 43 43 69
  have A_times : At W "times" s_times := by rw [eW]; exact at_of X G c 10 10 20
  have A_tone_by : At W "tone_by" s_tone_by := by rw [eW]; exact at_of X G c 53 53 80
  have A_with_lane : At W "with_lane" s_with_lane := by rw [eW]; exact at_of X G c 46 46 72
  have A_with_piece : At W "with_piece" s_with_piece := by rw [eW]; exact at_of X G c 48 48 74
  have A_with_pieces : At W "with_pieces" s_with_pieces := by rw [eW]; exact at_of X G c 47 47 73
  have A__law_pen : At W "_law_pen" s__law_pen := by rw [eW]; exact at_of X G c 64 64 93
  have H_is_whole := c_is_whole (T := T) Z A_is_whole
  have H_is_from := c_is_from (T := T) Z A_is_from H_is_whole
  have H_divisor := c_divisor (T := T) Z A_divisor
  have H_lowest := c_lowest (T := T) Z A_lowest H_divisor
  have H_is_fraction := c_is_fraction (T := T) Z A_is_fraction H_is_whole H_divisor
  have H_is_not_below := c_is_not_below (T := T) Z A_is_not_below H_is_fraction
  have H_is_above := c_is_above (T := T) Z A_is_above H_is_fraction
  have H_fraction := c_fraction (T := T) Z A_fraction H_is_whole H_lowest
  have H_plus := c_plus (T := T) Z A_plus H_lowest
  have H_minus := c_minus (T := T) Z A_minus H_lowest
  have H_times := c_times (T := T) Z A_times H_lowest
  have H_over := c_over (T := T) Z A_over H_fraction
  have H_is_less := c_is_less (T := T) Z A_is_less
  have H_floor_of := c_floor_of (T := T) Z A_floor_of
  have H_as_fraction := c_as_fraction (T := T) Z A_as_fraction
  have H_part_way := c_part_way (T := T) Z A_part_way H_plus H_minus H_times
  have H_is_stretch := c_is_stretch (T := T) Z A_is_stretch H_is_above H_is_from
  have H_growth := c_growth (T := T) Z A_growth H_over H_minus H_as_fraction
  have H_go_on := c_go_on (T := T) Z A_go_on H_growth
  have H_is_tempo := c_is_tempo (T := T) Z A_is_tempo H_is_above H_go_on H_is_stretch
  have H_line_at := c_line_at (T := T) Z A_line_at H_part_way H_lowest
  have H_sum_ahead := c_sum_ahead (T := T) Z A_sum_ahead H_plus H_times H_line_at H_lowest
  have H_must_be_place := c_must_be_place (T := T) Z A_must_be_place H_is_not_below
  have H_length_at := c_length_at (T := T) Z A_length_at H_part_way H_lowest
  have H_moment_by := c_moment_by (T := T) Z A_moment_by H_floor_of H_minus H_times H_plus H_as_fraction H_length_at H_sum_ahead
  have H_is_name := c_is_name (T := T) Z A_is_name
  have H_are_tones := c_are_tones (T := T) Z A_are_tones H_is_from
  have H_is_take := c_is_take (T := T) Z A_is_take H_is_name H_are_tones
  have H_is_corner := c_is_corner (T := T) Z A_is_corner H_is_not_below
  have H_far_between := c_far_between (T := T) Z A_far_between
  have H_lies_straight := c_lies_straight (T := T) Z A_lies_straight H_far_between
  have H_is_laid := c_is_laid (T := T) Z A_is_laid H_is_from
  have H_is_shape := c_is_shape (T := T) Z A_is_shape H_is_corner H_is_less H_lies_straight
  have H_is_piece := c_is_piece (T := T) Z A_is_piece H_is_shape H_is_from H_is_name H_is_laid H_is_not_below H_is_above H_as_fraction
  have H_is_lane := c_is_lane (T := T) Z A_is_lane H_is_from H_is_name H_is_not_below
  have H_lane_by := c_lane_by (T := T) Z A_lane_by
  have H_take_by := c_take_by (T := T) Z A_take_by
  have H_lane_of := c_lane_of (T := T) Z A_lane_of
  have H_with_lane := c_with_lane (T := T) Z A_with_lane
  have H_with_pieces := c_with_pieces (T := T) Z A_with_pieces H_lane_by H_with_lane
  have H_numbered := c_numbered (T := T) Z A_numbered
  have H_with_piece := c_with_piece (T := T) Z A_with_piece H_lane_of H_with_pieces
  have H_fault_of_takes := c_fault_of_takes (T := T) Z A_fault_of_takes A_first_where hmT_fault_of_takes hu_fault_of_takes H_is_take
  have H_fault_of_lanes := c_fault_of_lanes (T := T) Z A_fault_of_lanes A_first_where hmT_fault_of_lanes hu_fault_of_lanes H_is_lane
  have H_fault_of_pieces := c_fault_of_pieces (T := T) Z A_fault_of_pieces H_numbered H_is_piece
  have H_fault_of := c_fault_of (T := T) Z A_fault_of H_is_tempo H_fault_of_takes H_fault_of_lanes H_fault_of_pieces
  have H_must_be_sheet := c_must_be_sheet (T := T) Z A_must_be_sheet H_fault_of
  have H_covers := c_covers (T := T) Z A_covers H_is_less H_as_fraction
  have H_gone_through := c_gone_through (T := T) Z A_gone_through H_as_fraction H_minus H_moment_by
  have H_content_by := c_content_by (T := T) Z A_content_by H_plus H_times H_gone_through
  have H_level_by := c_level_by (T := T) Z A_level_by H_is_less H_part_way H_over H_minus
  have H_tone_by := c_tone_by (T := T) Z A_tone_by H_floor_of H_take_by H_content_by
  have H_sound_by := c_sound_by (T := T) Z A_sound_by H_level_by H_times H_covers H_minus H_as_fraction H_tone_by
  have H_highest_by := c_highest_by (T := T) Z A_highest_by H_covers
  have H_lane_by_place := c_lane_by_place (T := T) Z A_lane_by_place H_highest_by H_times H_sound_by
  have H_lane_at := c_lane_at (T := T) Z A_lane_at H_must_be_sheet H_lane_by H_must_be_place H_lane_by_place
  have H_runs_by := c_runs_by (T := T) Z A_runs_by H_highest_by H_as_fraction
  have H_runs_of := c_runs_of (T := T) Z A_runs_of H_must_be_sheet H_runs_by H_lane_by
  have H__law_low := c__law_low (T := T) Z A__law_low
  have H__law_sub := c__law_sub (T := T) Z A__law_sub H__law_low
  have H__law_mul := c__law_mul (T := T) Z A__law_mul H__law_low
  have H__law_div := c__law_div (T := T) Z A__law_div H__law_low
  have H__law_goes_on := c__law_goes_on (T := T) Z A__law_goes_on H__law_mul H__law_sub
  have H__law_draw := c__law_draw (T := T) Z A__law_draw
  have H__law_above := c__law_above (T := T) Z A__law_above H__law_low H__law_draw
  have H__law_from := c__law_from (T := T) Z A__law_from H__law_draw H__law_above
  have H__law_names := c__law_names (T := T) Z A__law_names H__law_draw
  have H__law_numbers := c__law_numbers (T := T) Z A__law_numbers H__law_draw
  have H__law_tempo := c__law_tempo (T := T) Z A__law_tempo H__law_above H__law_draw H__law_goes_on
  have H__law_take := c__law_take (T := T) Z A__law_take H__law_draw
  have H__law_plain := c__law_plain (T := T) Z A__law_plain H__law_div H__law_sub
  have H__law_shape := c__law_shape (T := T) Z A__law_shape H__law_plain H__law_draw H__law_from H__law_low
  have H__law_piece := c__law_piece (T := T) Z A__law_piece H__law_low H__law_draw H__law_shape
  have H__law_sheet := c__law_sheet (T := T) Z A__law_sheet H__law_names H__law_numbers H__law_take H__law_draw H__law_piece H__law_tempo H__law_from
  have H__law_good_sheet := c__law_good_sheet (T := T) Z A__law_good_sheet H__law_sheet H__law_draw
  have H__law_place := c__law_place (T := T) Z A__law_place
  have H__law_pieces_of := c__law_pieces_of (T := T) Z A__law_pieces_of
  have H__law_steps := c__law_steps (T := T) Z A__law_steps
  have H__law_runs := c__law_runs (T := T) Z A__law_runs H__law_steps H_runs_of
  have H__law_by_rank := c__law_by_rank (T := T) Z A__law_by_rank H__law_steps
  have H_piece_by := c_piece_by (T := T) Z A_piece_by H_numbered H_is_from
  have H_looked_up := c_looked_up (T := T) Z A_looked_up H_must_be_sheet H_piece_by H_must_be_place
  have H_sound_at := c_sound_at (T := T) Z A_sound_at H_sound_by H_looked_up
  have H_raise_to := c_raise_to (T := T) Z A_raise_to H_must_be_sheet H_piece_by H_lane_of H_with_pieces H_is_from
  have H_shift := c_shift (T := T) Z A_shift H_must_be_sheet H_piece_by H_lane_by H_with_piece H_with_pieces
  have H__law_right := c__law_right (T := T) Z A__law_right H__law_place H__law_steps H_raise_to H_shift H__law_runs H__law_by_rank
  obtain ⟨fp, fdp, FP, hmp⟩ := A__law_pen.ex
  have KP := ok_pen Z FP
  have BP : Binds W.K fdp P__law_pen [] := FP.bindsN bn__law_pen
  rw [show K = W.K by rw [eW]] at FL
  have main : FnOk W.P W.w W.K W.mg W.base CX0 14 f fd P_law (spL K) := by
    refine FL.ok sc_law (fun vs H Q E hh => ?_) (fun cdv Ar outer s H vs Q E hr hh => ⟨_, pss_w.nox, ?_⟩)
    · obtain ⟨a, ns, rfl, _⟩ := hh
      rfl
    obtain ⟨a, ns, rfl, hS, hl, hT, hQ⟩ := hh
    refine PSs_w (X := bX W "law" N_law (defScope s_law) f cdv Ar outer s H E) (pss_cons (ps_set (i := 1) sc_law.nd rfl (.inl rfl) (pe_call (E := E0) KP (hr.mono (by decide)) (by rfl) hmp FP.kp BP .nil pass0 (pa_cons (pv 0) pa_nil (by exact st_any rfl)) (by decide) (by exact st_any rfl) (by rfl)) (by rfl) (.inl rfl)) (pss_w (sts := (defBody s_law).drop 1))) ?_
    refine ⟨_, rfl, ?_⟩
    refine ⟨a, ns, rfl, by rw [show W.K = K by rw [eW]]; exact hS, hl, fun H' l q e hq hlq hl' hq' => ?_⟩
    have hql : q ≠ l := fun z => by
      rw [z, hl'] at hq'
      cases ns with
      | nil => cases hq'
      | cons n ns => cases hq'
    have lr := law_rest (W := W) (T := T) Z H__law_good_sheet H__law_pieces_of H__law_place H__law_low H_raise_to H__law_mul H_shift H__law_right H_sound_at H__law_draw H_lane_at H__law_runs H__law_by_rank f cdv Ar outer s H E hr a q
    refine lr (fun b => if b = l then some (.lst (ns.map V.int)) else none) H' _ _ ⟨fun b o hb => ?_, ?_, fun b ps hb => ?_, ?_⟩ ?_ ⟨by simp, fun z hz => ?_, fun z hz => ?_⟩ ⟨fun _ _ _ _ _ z => z.elim, fun v d M' F' H2 z _ r => ?_, fun _ _ _ _ _ z => z.elim, fun _ _ _ _ _ z => z.elim⟩
    · have hb' : (if b = l then some (HO.lst (ns.map V.int)) else none) = some o := hb
      split at hb'
      · rename_i eb
        rw [eb, hl', hb']
      · cases hb'
    · rw [eT]
      exact fun p hp => (hT p hp).ext fun b o hb => e b o hb
    · have hb' : (if b = l then some (HO.lst (ns.map V.int)) else none) = some (HO.tbl ps) := hb
      split at hb' <;> cases hb'
    · rw [eT]
      exact fun b o hb => by cases hb
    · have s0 : Slots W.K (fun b => if b = l then some (HO.lst (ns.map V.int)) else none) (L2.start N_law [.ref a]) (startR N_law [.adr a]) := slots_start (.cons (rp_adr.mpr rfl) .nil) (Nat.le_of_ble_eq_true rfl)
      exact s0.set (i := 1) (rp_adr.mpr rfl)
    · rw [List.mem_singleton.mp hz]
      show (if q = l then some (HO.lst (ns.map V.int)) else none) = none
      rw [if_neg hql]
    · rw [List.mem_singleton.mp hz]
      exact ⟨l, ns, 0, 0, hq', by show (if l = l then some (HO.lst (ns.map V.int)) else none) = _; rw [if_pos rfl], hl, Int.le_refl 0, Int.le_refl 0, Int.le_refl 0⟩
    · have z : d = .bl true := z
      rw [z] at r
      rw [rp_bl.mp r]
      exact hQ _
  rw [eW] at main
  exact main
theorem law_at (X : K.In h) (G : h.Ns mainGlobals mg) (c : BHead.Says BHead.fa BHead.fn BHead.tf BHead.exB h K) {fa : Addr} (hfa : mg ("law" : Str) = some (.ref fa)) : LawAtS PySem.Challenge.rw_beatlanes_k33_whole_ranks_and_runs w K CX0 14 63 "_law_script" mg fa h := by
  obtain ⟨fd, F⟩ := c.d.def_ 88 (d := BHead.dOf "law" 117) rfl
  have e := hfa.symm.trans (He.glo_ok X G (c.d.fact 88 (f := .glo "law") rfl))
  cases e
  have b := FunD.bindsA (ps := ["_law_script"]) F fun _ _ _ _ _ _ us hl => match us, hl with | [_], _ => rfl
  have hc : ∀ p ∈ BHead.tf.map (He.cT K), ∃ q ∈ BHead.tf, p = He.cT K q := fun p hp => by
    obtain ⟨q, h1, h2⟩ := List.mem_map.mp hp
    exact ⟨q, h1, h2.symm⟩
  refine ⟨fd, BHead.tf.map (He.cT K), spL K, fun p hp => ?_, fun p hp => ?_, fun p hp => ?_, fun s u => b s [u] rfl, fun H a ns hl _ hT hS => ⟨a, ns, rfl, hS, hl, fun p hp => ?_, fun _ => rfl⟩, fun base _ _ hB => ?_⟩
  · obtain ⟨q, h1, rfl⟩ := hc p hp
    exact c.empty q h1
  · obtain ⟨q, h1, rfl⟩ := hc p hp
    exact c.out q h1
  · obtain ⟨q, h1, rfl⟩ := hc p hp
    exact PySem.W.codeHd_of_K X (c.hd q h1)
  · rcases List.mem_cons.mp hp with rfl | hp
    · exact TabS.nil (hT (He.cT K ("fault_of_takes", none)) (List.mem_map.mpr ⟨_, List.mem_cons_self, rfl⟩))
    · rw [List.mem_singleton.mp hp]
      exact TabS.nil (hT (He.cT K ("fault_of_lanes", none)) (List.mem_map.mpr ⟨_, List.mem_cons_of_mem _ List.mem_cons_self, rfl⟩))
  · exact ok_law X G c.d c.more (hB _ (List.mem_map.mpr ⟨_, List.mem_cons_self, rfl⟩)) (hB _ (List.mem_map.mpr ⟨_, List.mem_cons_of_mem _ List.mem_cons_self, rfl⟩)) F
end
end BL
open PySem PySem.W PySem.Calls PyProof.Rows
theorem PySem.Challenge.cw_beatlanes_k33_whole_ranks_and_runs_holds : PySem.Challenge.rw_beatlanes_k33_whole_ranks_and_runs.Holds := by
  w_on; o_law
  refine HandSHeadRun.head_any (r := OpenLaw.row PySem.Challenge.rw_beatlanes_k33_whole_ranks_and_runs) (q := view (OpenLaw.row PySem.Challenge.rw_beatlanes_k33_whole_ranks_and_runs).prog [117]) (H := BHead.hk) (ob := BHead.ob) (M := 20000) (loose := BHead.names) (d := HandSHeadRun.topDef (OpenLaw.row PySem.Challenge.rw_beatlanes_k33_whole_ranks_and_runs).prog 117) (kwd := []) BHead.ob_eq
    (by kernel_rfl) (fun s => by kernel_rfl) BHead.run (by kernel_rfl) (by kernel_rfl) (by kernel_rfl) (by rfl) (by first | assumption | decide +kernel) (by decide +kernel) ⟨rfl, rfl, rfl, rfl, rfl, by decide +kernel⟩ ?hw ?hc
  case hw => w_witness2
  case hc =>
    refine LamX.walk_ofTsE (l := PySem.Challenge.rw_beatlanes_k33_whole_ranks_and_runs) (n := 63) (k := 14) (x := "_law_script") (CX := fun _ => L2.CX0) rfl (by decide) (by kernel_rfl) ⟨rfl, by decide, by decide⟩ ?F (fun _ _ _ _ _ z => z)
    intro w mg fa h Y G hmg0
    obtain ⟨K, KX, c⟩ := Y
    have hmg : mg ("law" : PySem.Str) = some (.ref fa) := by
      have e : (HandSHeadRun.topDef (OpenLaw.row PySem.Challenge.rw_beatlanes_k33_whole_ranks_and_runs).prog 117).name = ("law" : PySem.Str) := by kernel_rfl
      rw [← e]
      exact hmg0
    exact ⟨K, KX, BL.law_at KX G c hmg⟩
