import PyProof.Rows.All
import Wide.All
import OpenK.AllK
import Wide.FinOn
import HandS.ForMost
import HandS.Words
import HandS.HeadHook4
import HandS.Head0
import HandS.Head1
import HandS.Head2
import HandS.Head3
import HandS.HeadEnd
import KE.KStateDown
import HandS.Exc
import HandS.ExcOwn
import HandS.Nested
import HandS.TupAny
import HandS.TupLe
import HandS.Style
import HandS.IsInst
import HandS.Gcd
import HandS.CallLocal
import HandS.Defaults
import HandS.HeadHook1
import HandS.HeadHook2
import HandS.Text
import HandS.NoneIn
import HandS.Comp
import HandS.Lambda
import HandS.NestedK
import KE.GoesMore
import HandS.Zip
import HandS.Iter
import PyProof.Draws
import PyProof.EnumStmt
import PyProof.ReprRoads
import PyProof.StrLawsRepr
import PyProof.FitsInt
import HandS.EndTab
import HandS.EndBits
import HandS.HeadWalk
import PySem.Challenge.RW_leafswings_k59_whole_frames
set_option Elab.async false
set_option linter.all false
set_option maxRecDepth 100000
set_option maxHeartbeats 4000000
namespace K59
open PySem PySem.Spec PyProof.Rows L2
abbrev Pg : Program := PySem.Challenge.pw_leafswings_k59_whole_frames
def top (i : Nat) : Stmt := Pg.main.body.getD i (.Pass ⟨0, 0, 0, 0⟩)
def faL0 : List He.Fa := [.glo "is_whole", .glo "is_number", .glo "is_tuple_of", .glo "wrong_at", .glo "wrong_from_one", .glo "wrong_for_all", .glo "is_above_last", .glo "is_word", .glo "is_name", .glo "is_one_of", .glo "is_heading_form", .glo "quarter_left", .glo "opposite", .glo "other_turn", .glo "is_place_number", .glo "is_leaf_form", .glo "name_in", .glo "hinge_of", .glo "is_wall_form", .glo "is_next_leaf", .glo "wrong_walls", .glo "is_house_form", .glo "leaf_names", .glo "check_turn", .glo "check_house"]
def faL1 : List He.Fa := [.glo "wide_of", .glo "is_frame_form", .glo "do_frames_touch", .glo "is_next_frame", .glo "wrong_frames", .glo "is_hanging", .glo "wrong_hangings", .glo "heading_along", .glo "hung_leaf", .glo "hung_by", .glo "all_hung", .glo "check_frame", .glo "check_post", .glo "check_frames", .glo "check_hangings", .glo "is_frame", .glo "hanging_leaf", .glo "frames_house", .glo "is_house", .glo "names_of", .glo "is_leaf", .glo "_law_well", .glo "_law_draw", .glo "_law_of", .glo "_law_same"]
def faL2 : List He.Fa := [.glo "_law_names", .glo "_law_frames", .glo "_law_touch", .glo "_law_hung", .glo "_law_hangings", .glo "_law_choices", .glo "_law_near", .glo "_law_right", .glo "law", .free "isinstance", .free "int", .free "bool", .free "str", .free "tuple", .free "list", .free "len", .free "all", .free "any", .free "range", .free "zip", .free "enumerate", .free "max", .free "min", .free "abs", .free "divmod"]
def faL3 : List He.Fa := [.free "sorted", .free "repr", .free "set", .free "sum", .str "LETTERS" "abcdefghijklmnopqrstuvwxyz", .int "MOST_IN_NAME" (8), .glo "WORDS", .int "MOST_STEP" (9), .str "LEFT" "left", .str "RIGHT" "right", .glo "TURNS", .int "MOST_PLACE" (199), .int "MOST_LONG" (99), .int "MOST_LEAVES" (7), .int "MOST_WALLS" (8), .str "FIRST" "first", .str "SECOND" "second", .glo "POSTS", .int "MOST_FRAMES" (6), .int "LEAST_WIDE" (2), .int "MOST_WIDE" (100)]
def fa : List He.Fa := faL0 ++ (faL1 ++ (faL2 ++ (faL3)))
def fnDL0 : List He.DefD := [⟨("is_whole", none), "is_whole", "is_whole", defArgs (top 13), defBody (top 13), defScope (top 13), [], []⟩, ⟨("is_number", none), "is_number", "is_number", defArgs (top 14), defBody (top 14), defScope (top 14), [], []⟩, ⟨("is_tuple_of", none), "is_tuple_of", "is_tuple_of", defArgs (top 15), defBody (top 15), defScope (top 15), [], []⟩, ⟨("wrong_at", none), "wrong_at", "wrong_at", defArgs (top 16), defBody (top 16), defScope (top 16), [], []⟩, ⟨("wrong_from_one", none), "wrong_from_one", "wrong_from_one", defArgs (top 17), defBody (top 17), defScope (top 17), [], []⟩, ⟨("wrong_for_all", none), "wrong_for_all", "wrong_for_all", defArgs (top 18), defBody (top 18), defScope (top 18), [], []⟩, ⟨("is_above_last", none), "is_above_last", "is_above_last", defArgs (top 19), defBody (top 19), defScope (top 19), [], []⟩, ⟨("is_word", none), "is_word", "is_word", defArgs (top 20), defBody (top 20), defScope (top 20), [], []⟩, ⟨("is_name", none), "is_name", "is_name", defArgs (top 21), defBody (top 21), defScope (top 21), [], []⟩, ⟨("is_one_of", none), "is_one_of", "is_one_of", defArgs (top 22), defBody (top 22), defScope (top 22), [], []⟩, ⟨("is_heading_form", none), "is_heading_form", "is_heading_form", defArgs (top 28), defBody (top 28), defScope (top 28), [], []⟩, ⟨("quarter_left", none), "quarter_left", "quarter_left", defArgs (top 29), defBody (top 29), defScope (top 29), [], []⟩, ⟨("opposite", none), "opposite", "opposite", defArgs (top 30), defBody (top 30), defScope (top 30), [], []⟩, ⟨("other_turn", none), "other_turn", "other_turn", defArgs (top 31), defBody (top 31), defScope (top 31), [], []⟩, ⟨("is_place_number", none), "is_place_number", "is_place_number", defArgs (top 35), defBody (top 35), defScope (top 35), [], []⟩, ⟨("is_leaf_form", none), "is_leaf_form", "is_leaf_form", defArgs (top 36), defBody (top 36), defScope (top 36), [], []⟩, ⟨("name_in", none), "name_in", "name_in", defArgs (top 37), defBody (top 37), defScope (top 37), [], []⟩, ⟨("hinge_of", none), "hinge_of", "hinge_of", defArgs (top 38), defBody (top 38), defScope (top 38), [], []⟩, ⟨("is_wall_form", none), "is_wall_form", "is_wall_form", defArgs (top 42), defBody (top 42), defScope (top 42), [], []⟩, ⟨("is_next_leaf", none), "is_next_leaf", "is_next_leaf", defArgs (top 43), defBody (top 43), defScope (top 43), [], []⟩, ⟨("wrong_walls", none), "wrong_walls", "wrong_walls", defArgs (top 44), defBody (top 44), defScope (top 44), [], []⟩, ⟨("is_house_form", none), "is_house_form", "is_house_form", defArgs (top 45), defBody (top 45), defScope (top 45), [], []⟩, ⟨("leaf_names", none), "leaf_names", "leaf_names", defArgs (top 46), defBody (top 46), defScope (top 46), [], []⟩, ⟨("check_turn", none), "check_turn", "check_turn", defArgs (top 48), defBody (top 48), defScope (top 48), [], []⟩, ⟨("check_house", none), "check_house", "check_house", defArgs (top 49), defBody (top 49), defScope (top 49), [], []⟩]
def fnDL1 : List He.DefD := [⟨("wide_of", none), "wide_of", "wide_of", defArgs (top 57), defBody (top 57), defScope (top 57), [], []⟩, ⟨("is_frame_form", none), "is_frame_form", "is_frame_form", defArgs (top 58), defBody (top 58), defScope (top 58), [], []⟩, ⟨("do_frames_touch", none), "do_frames_touch", "do_frames_touch", defArgs (top 59), defBody (top 59), defScope (top 59), [], []⟩, ⟨("is_next_frame", none), "is_next_frame", "is_next_frame", defArgs (top 60), defBody (top 60), defScope (top 60), [], []⟩, ⟨("wrong_frames", none), "wrong_frames", "wrong_frames", defArgs (top 61), defBody (top 61), defScope (top 61), [], []⟩, ⟨("is_hanging", none), "is_hanging", "is_hanging", defArgs (top 62), defBody (top 62), defScope (top 62), [], []⟩, ⟨("wrong_hangings", none), "wrong_hangings", "wrong_hangings", defArgs (top 63), defBody (top 63), defScope (top 63), [], []⟩, ⟨("heading_along", none), "heading_along", "heading_along", defArgs (top 64), defBody (top 64), defScope (top 64), [], []⟩, ⟨("hung_leaf", none), "hung_leaf", "hung_leaf", defArgs (top 65), defBody (top 65), defScope (top 65), [], []⟩, ⟨("hung_by", none), "hung_by", "hung_by", defArgs (top 66), defBody (top 66), defScope (top 66), [], []⟩, ⟨("all_hung", none), "all_hung", "all_hung", defArgs (top 67), defBody (top 67), defScope (top 67), [], []⟩, ⟨("check_frame", none), "check_frame", "check_frame", defArgs (top 69), defBody (top 69), defScope (top 69), [], []⟩, ⟨("check_post", none), "check_post", "check_post", defArgs (top 70), defBody (top 70), defScope (top 70), [], []⟩, ⟨("check_frames", none), "check_frames", "check_frames", defArgs (top 71), defBody (top 71), defScope (top 71), [], []⟩, ⟨("check_hangings", none), "check_hangings", "check_hangings", defArgs (top 72), defBody (top 72), defScope (top 72), [], []⟩, ⟨("is_frame", none), "is_frame", "is_frame", defArgs (top 73), defBody (top 73), defScope (top 73), [], []⟩, ⟨("hanging_leaf", none), "hanging_leaf", "hanging_leaf", defArgs (top 74), defBody (top 74), defScope (top 74), [], []⟩, ⟨("frames_house", none), "frames_house", "frames_house", defArgs (top 75), defBody (top 75), defScope (top 75), [], []⟩, ⟨("is_house", none), "is_house", "is_house", defArgs (top 77), defBody (top 77), defScope (top 77), [], []⟩, ⟨("names_of", none), "names_of", "names_of", defArgs (top 78), defBody (top 78), defScope (top 78), [], []⟩, ⟨("is_leaf", none), "is_leaf", "is_leaf", defArgs (top 80), defBody (top 80), defScope (top 80), [], []⟩, ⟨("_law_well", none), "_law_well", "_law_well", defArgs (top 82), defBody (top 82), defScope (top 82), [], []⟩, ⟨("_law_draw", none), "_law_draw", "_law_draw", defArgs (top 83), defBody (top 83), defScope (top 83), [], []⟩, ⟨("_law_of", none), "_law_of", "_law_of", defArgs (top 84), defBody (top 84), defScope (top 84), [], []⟩, ⟨("_law_same", none), "_law_same", "_law_same", defArgs (top 85), defBody (top 85), defScope (top 85), [], []⟩]
def fnDL2 : List He.DefD := [⟨("_law_names", none), "_law_names", "_law_names", defArgs (top 86), defBody (top 86), defScope (top 86), [], []⟩, ⟨("_law_frames", none), "_law_frames", "_law_frames", defArgs (top 87), defBody (top 87), defScope (top 87), [], []⟩, ⟨("_law_touch", none), "_law_touch", "_law_touch", defArgs (top 88), defBody (top 88), defScope (top 88), [], []⟩, ⟨("_law_hung", none), "_law_hung", "_law_hung", defArgs (top 89), defBody (top 89), defScope (top 89), [], []⟩, ⟨("_law_hangings", none), "_law_hangings", "_law_hangings", defArgs (top 90), defBody (top 90), defScope (top 90), [], []⟩, ⟨("_law_choices", none), "_law_choices", "_law_choices", defArgs (top 91), defBody (top 91), defScope (top 91), [], []⟩, ⟨("_law_near", none), "_law_near", "_law_near", defArgs (top 92), defBody (top 92), defScope (top 92), [], []⟩, ⟨("_law_right", none), "_law_right", "_law_right", defArgs (top 93), defBody (top 93), defScope (top 93), [], []⟩, ⟨("law", none), "law", "law", defArgs (top 94), defBody (top 94), defScope (top 94), [], []⟩]
def fnD : List He.DefD := fnDL0 ++ (fnDL1 ++ (fnDL2))
def tf : List He.Defn := [("wrong_walls", none), ("wrong_hangings", none)]
def ex (K : PySem.W.Frag) : Bool := ([He.tupB K "WORDS" [.str "again", .str "at", .str "beat", .str "calm", .str "door", .str "ends", .str "first", .str "from", .str "go", .str "house", .str "in", .str "left", .str "long", .str "never", .str "none", .str "open", .str "post", .str "right", .str "second", .str "shut", .str "stand", .str "sweep", .str "to", .str "turns", .str "wall", .str "way", .str "wedge"], He.tupB K "TURNS" [.str "left", .str "right"], He.tupB K "POSTS" [.str "first", .str "second"], He.eqO (PySem.W.nsIn K mainGlobals "gcd") (some (some (.builtin "math.gcd")))] : List Bool).all id
def looseL0 : List Str := ["gcd", "LeafError", "InvalidHouse", "OutOfRange", "InvalidTurn", "InvalidFrame", "InvalidFrames", "InvalidHangings", "LETTERS", "MOST_IN_NAME", "WORDS", "is_whole", "is_number", "is_tuple_of", "wrong_at", "wrong_from_one", "wrong_for_all", "is_above_last", "is_word", "is_name", "is_one_of", "MOST_STEP", "LEFT", "RIGHT", "TURNS"]
def looseL1 : List Str := ["is_heading_form", "quarter_left", "opposite", "other_turn", "MOST_PLACE", "MOST_LONG", "is_place_number", "is_leaf_form", "name_in", "hinge_of", "MOST_LEAVES", "MOST_WALLS", "is_wall_form", "is_next_leaf", "wrong_walls", "is_house_form", "leaf_names", "check_turn", "check_house", "FIRST", "SECOND", "POSTS", "MOST_FRAMES", "LEAST_WIDE", "MOST_WIDE"]
def looseL2 : List Str := ["wide_of", "is_frame_form", "do_frames_touch", "is_next_frame", "wrong_frames", "is_hanging", "wrong_hangings", "heading_along", "hung_leaf", "hung_by", "all_hung", "check_frame", "check_post", "check_frames", "check_hangings", "is_frame", "hanging_leaf", "frames_house", "is_house", "names_of", "is_leaf", "_law_well", "_law_draw", "_law_of", "_law_same"]
def looseL3 : List Str := ["_law_names", "_law_frames", "_law_touch", "_law_hung", "_law_hangings", "_law_choices", "_law_near", "_law_right"]
def loose : List Str := looseL0 ++ (looseL1 ++ (looseL2 ++ (looseL3)))
abbrev Rw : PySem.W.OpenRow := PySem.W.OpenLaw.row PySem.Challenge.rw_leafswings_k59_whole_frames
abbrev hkX : PySem.W.Hook := He.hookX 4 fa fnD [] tf ex
def ob (s : PySem.W.SharedT) : He.AlX := He.obsX 4 fa fnD [] tf ex (HandSHeadRun.getT s)
theorem ob_eq (s : PySem.W.SharedT) : ob s = hkX.obs s.abs := He.obsX_eq (HandSHeadRun.getT_eq s)
theorem run (w : World) : HandSHeadRun.RunEqI Rw (PySem.W.view Rw.prog [0, 94]) hkX ob 20000 loose w := by
  unfold HandSHeadRun.RunEqI
  kernel_rfl
end K59
set_option Elab.async false
set_option linter.all false
set_option maxRecDepth 100000
set_option maxHeartbeats 4000000
/-! A layer of data over the hand layer: what a piece of text reckons, as a plain function on data. -/
namespace G
open PySem PySem.Spec PyProof.Rows L2

inductive D where
  | non | bl (b : Bool) | int (i : Int) | str (s : Str) | tup (xs : List D) | lst (xs : List D) | scr (xs : List D) | cell (n : Nat) | fn (k : Nat)

abbrev Cells := List (List D)
abbrev Ev := List (Option D)
inductive Out where
  | ok (d : D) (c : Cells)
  | exc (k : Nat) (d : D) (c : Cells)
abbrev SE := Ev → Cells → Option Out

/-- what stands still through a whole law: the written part, what stands for a def as a value, the tables of code objects, the classes of errors with the word of their attribute -/
structure Sta where
  K : PySem.W.Frag
  F : Nat → Hp → V → Prop
  T : List NdefX.NTab
  X : Nat → Option (Addr × Str)
  mono : ∀ k H H' v, (∀ a o, H a = some o → H' a = some o) → F k H v → F k H' v
/-- what is kept for good, and where the lists stand that change -/
structure Wd where
  PH : Hp
  cs : List Addr

mutual
def DV (S : Sta) (w : Wd) : D → V → Prop
  | .non, v => v = .non
  | .bl b, v => v = .bl b
  | .int i, v => v = .int i
  | .str s, v => v = .str s
  | .tup xs, v => ∃ a vs, v = .ref a ∧ SqT S.K w.PH a vs ∧ DVs S w xs vs
  | .lst xs, v => ∃ a vs, v = .ref a ∧ w.PH a = some (.lst vs) ∧ DVs S w xs vs
  | .scr xs, v => ∃ a vs, v = .ref a ∧ SqL S.K w.PH a vs ∧ DVs S w xs vs
  | .cell n, v => ∃ a, w.cs[n]? = some a ∧ v = .ref a
  | .fn k, v => S.F k w.PH v
def DVs (S : Sta) (w : Wd) : List D → List V → Prop
  | [], vs => vs = []
  | d :: ds, vs => ∃ v r, vs = v :: r ∧ DV S w d v ∧ DVs S w ds r
end

structure Rep (S : Sta) (w : Wd) (H : Hp) (c : Cells) : Prop where
  per : ∀ a o, w.PH a = some o → H a = some o
  len : w.cs.length = c.length
  nd : w.cs.Nodup
  cell : ∀ (n : Nat) (a : Addr) (l : List D), w.cs[n]? = some a → c[n]? = some l → w.PH a = none ∧ ∃ vs, H a = some (.lst vs) ∧ DVs S w l vs
  tab : NdefX.TabsN S.T H
  tabP : ∀ p ∈ S.T, w.PH p.1 = none

structure Tr (w : Wd) (H : Hp) (w' : Wd) (H' : Hp) : Prop where
  ph : ∀ a o, w.PH a = some o → w'.PH a = some o
  nw : ∀ a o, w'.PH a = some o → w.PH a = some o ∨ H a = none ∨ ∃ φ, o = .ext φ
  cs : w.cs <+: w'.cs
  csn : ∀ a ∈ w'.cs, a ∈ w.cs ∨ H a = none
  keep : ∀ a o, H a = some o → a ∉ w.cs → (∀ ps, o ≠ .tbl ps) → H' a = some o
  there : ∀ a, H a ≠ none → H' a ≠ none

theorem rd_mono {H H' : Hp} (h : ∀ a o, H a = some o → H' a = some o) {a : Addr} {u : HO} : Rd H a u → Rd H' a u
  | .inl q => .inl (h _ _ q)
  | .inr ⟨o, q⟩ => .inr ⟨o, h _ _ q⟩
theorem sqt_mono {K : PySem.W.Frag} {H H' : Hp} (h : ∀ a o, H a = some o → H' a = some o) {a : Addr} {xs : List V} : SqT K H a xs → SqT K H' a xs
  | .inl q => .inl (rd_mono h q)
  | .inr q => .inr q
theorem sql_mono {K : PySem.W.Frag} {H H' : Hp} (h : ∀ a o, H a = some o → H' a = some o) {a : Addr} {xs : List V} : SqL K H a xs → SqL K H' a xs
  | .inl q => .inl (rd_mono h q)
  | .inr q => .inr q
theorem pre_get {α : Type} {l m : List α} (h : l <+: m) {n : Nat} {a : α} (e : l[n]? = some a) : m[n]? = some a := by
  obtain ⟨t, rfl⟩ := h
  rw [List.getElem?_append_left (List.getElem?_eq_some_iff.mp e).1]
  exact e

section
variable {S : Sta}
mutual
theorem DV.mono {w w' : Wd} (h1 : ∀ a o, w.PH a = some o → w'.PH a = some o) (h2 : w.cs <+: w'.cs) : ∀ (d : D) (v : V), DV S w d v → DV S w' d v
  | .non, v, h => by simpa [DV] using h
  | .bl b, v, h => by simpa [DV] using h
  | .int i, v, h => by simpa [DV] using h
  | .str s, v, h => by simpa [DV] using h
  | .tup xs, v, h => by
    simp only [DV] at h ⊢
    obtain ⟨a, vs, e, q, r⟩ := h
    exact ⟨a, vs, e, sqt_mono h1 q, DVs.mono h1 h2 xs vs r⟩
  | .lst xs, v, h => by
    simp only [DV] at h ⊢
    obtain ⟨a, vs, e, q, r⟩ := h
    exact ⟨a, vs, e, h1 _ _ q, DVs.mono h1 h2 xs vs r⟩
  | .scr xs, v, h => by
    simp only [DV] at h ⊢
    obtain ⟨a, vs, e, q, r⟩ := h
    exact ⟨a, vs, e, sql_mono h1 q, DVs.mono h1 h2 xs vs r⟩
  | .cell n, v, h => by
    simp only [DV] at h ⊢
    obtain ⟨a, e, q⟩ := h
    exact ⟨a, pre_get h2 e, q⟩
  | .fn k, v, h => by
    simp only [DV] at h ⊢
    exact S.mono k _ _ v h1 h
theorem DVs.mono {w w' : Wd} (h1 : ∀ a o, w.PH a = some o → w'.PH a = some o) (h2 : w.cs <+: w'.cs) : ∀ (ds : List D) (vs : List V), DVs S w ds vs → DVs S w' ds vs
  | [], vs, h => by simpa [DVs] using h
  | d :: ds, vs, h => by
    simp only [DVs] at h ⊢
    obtain ⟨v, r, e, q, t⟩ := h
    exact ⟨v, r, e, DV.mono h1 h2 d v q, DVs.mono h1 h2 ds r t⟩
end
theorem DV.tr {w w' : Wd} {H H' : Hp} {d : D} {v : V} (h : DV S w d v) (t : Tr w H w' H') : DV S w' d v := DV.mono t.ph t.cs d v h
theorem DVs.tr {w w' : Wd} {H H' : Hp} {d : List D} {v : List V} (h : DVs S w d v) (t : Tr w H w' H') : DVs S w' d v := DVs.mono t.ph t.cs d v h
theorem DVs.length {w : Wd} : ∀ {ds : List D} {vs : List V}, DVs S w ds vs → ds.length = vs.length
  | [], vs, h => by simp only [DVs] at h; rw [h]; rfl
  | d :: ds, vs, h => by
    simp only [DVs] at h
    obtain ⟨v, r, e, _, t⟩ := h
    rw [e, List.length_cons, List.length_cons, DVs.length t]
theorem DVs.get {w : Wd} : ∀ {ds : List D} {vs : List V} {i : Nat} {d : D}, DVs S w ds vs → ds[i]? = some d → ∃ v, vs[i]? = some v ∧ DV S w d v
  | [], _, _, _, _, e => by simp at e
  | d :: ds, vs, i, d', h, e => by
    simp only [DVs] at h
    obtain ⟨v, r, rfl, q, t⟩ := h
    cases i with
    | zero => simp at e; subst e; exact ⟨v, by simp, q⟩
    | succ i =>
      obtain ⟨u, h1, h2⟩ := DVs.get (i := i) (d := d') t (by simpa using e)
      exact ⟨u, by simpa using h1, h2⟩
theorem DVs.getV {w : Wd} {ds : List D} {vs : List V} {i : Nat} {v : V} (h : DVs S w ds vs) (e : vs[i]? = some v) : ∃ d, ds[i]? = some d ∧ DV S w d v := by
  have hl := h.length
  have hi : i < ds.length := by have := (List.getElem?_eq_some_iff.mp e).1; omega
  obtain ⟨u, h1, h2⟩ := h.get (i := i) (d := ds[i]) (by simp [hi])
  rw [e] at h1
  cases h1
  exact ⟨_, by simp [hi], h2⟩
theorem DVs.append {w : Wd} : ∀ {ds es : List D} {vs us : List V}, DVs S w ds vs → DVs S w es us → DVs S w (ds ++ es) (vs ++ us)
  | [], _, _, _, h, h' => by simp only [DVs] at h; subst h; exact h'
  | d :: ds, es, vs, us, h, h' => by
    simp only [DVs] at h
    obtain ⟨v, r, rfl, q, t⟩ := h
    show DVs S w (d :: (ds ++ es)) (v :: (r ++ us))
    simp only [DVs]
    exact ⟨v, _, rfl, q, DVs.append t h'⟩
theorem DVs.nil {w : Wd} : DVs S w [] [] := by simp only [DVs]
theorem DVs.cons {w : Wd} {d : D} {ds : List D} {v : V} {vs : List V} (h : DV S w d v) (t : DVs S w ds vs) : DVs S w (d :: ds) (v :: vs) := by
  simp only [DVs]; exact ⟨v, vs, rfl, h, t⟩
theorem DVs.take {w : Wd} : ∀ {ds : List D} {vs : List V} (n : Nat), DVs S w ds vs → DVs S w (ds.take n) (vs.take n)
  | _, _, 0, _ => by simpa using DVs.nil
  | [], vs, n + 1, h => by simp only [DVs] at h; subst h; simpa using DVs.nil
  | d :: ds, vs, n + 1, h => by
    simp only [DVs] at h
    obtain ⟨v, r, rfl, q, t⟩ := h
    exact DVs.cons q (DVs.take n t)
theorem DVs.drop {w : Wd} : ∀ {ds : List D} {vs : List V} (n : Nat), DVs S w ds vs → DVs S w (ds.drop n) (vs.drop n)
  | _, _, 0, h => by simpa using h
  | [], vs, n + 1, h => by simp only [DVs] at h; subst h; simpa using DVs.nil
  | d :: ds, vs, n + 1, h => by
    simp only [DVs] at h
    obtain ⟨v, r, rfl, q, t⟩ := h
    exact DVs.drop n t
theorem DVs.set {w : Wd} {d : D} {v : V} (q : DV S w d v) : ∀ {ds : List D} {vs : List V} (i : Nat), DVs S w ds vs → DVs S w (ds.set i d) (vs.set i v)
  | [], vs, _, h => by simp only [DVs] at h; subst h; exact DVs.nil
  | d' :: ds, vs, i, h => by
    simp only [DVs] at h
    obtain ⟨v', r, rfl, q', t⟩ := h
    cases i with
    | zero => exact DVs.cons q t
    | succ i => exact DVs.cons q' (DVs.set q i t)
/-- values by a list of their own -/
theorem DVs.of {w : Wd} : ∀ {ds : List D} {vs : List V}, ds.length = vs.length → (∀ (i : Nat) (d : D) (v : V), ds[i]? = some d → vs[i]? = some v → DV S w d v) → DVs S w ds vs
  | [], [], _, _ => DVs.nil
  | d :: ds, v :: vs, hl, h => DVs.cons (h 0 d v rfl rfl) (DVs.of (by simpa using hl) fun i d v e e' => h (i + 1) d v (by simpa using e) (by simpa using e'))

theorem Tr.refl (w : Wd) (H : Hp) : Tr w H w H := ⟨fun _ _ h => h, fun _ _ h => .inl h, ⟨[], by simp⟩, fun _ h => .inl h, fun _ _ h _ _ => h, fun _ h => h⟩
theorem Tr.trans {w w1 w2 : Wd} {H H1 H2 : Hp} (a : Tr w H w1 H1) (b : Tr w1 H1 w2 H2) : Tr w H w2 H2 where
  ph := fun x o h => b.ph x o (a.ph x o h)
  nw := fun x o h => by
    rcases b.nw x o h with q | q | q
    · exact a.nw x o q
    · refine .inr (.inl ?_)
      cases e : H x with
      | none => rfl
      | some u => exact absurd q (a.there x (by rw [e]; simp))
    · exact .inr (.inr q)
  cs := a.cs.trans b.cs
  csn := fun x h => by
    rcases b.csn x h with q | q
    · exact a.csn x q
    · refine .inr ?_
      cases e : H x with
      | none => rfl
      | some u => exact absurd q (a.there x (by rw [e]; simp))
  keep := fun x o h n t => b.keep x o (a.keep x o h n t) (fun z => by
    rcases a.csn x z with q | q
    · exact n q
    · rw [h] at q; cases q) t
  there := fun x h => b.there x (a.there x h)

def Clean (H : Hp) (a : Addr) : Prop := H a = none
/-- a new object is kept for good -/
def Wd.lay (w : Wd) (p : Addr) (o : HO) : Wd := ⟨upd w.PH p o, w.cs⟩
theorem Tr.lay {w : Wd} {H : Hp} {p : Addr} {o : HO} (hp : H p = none) (hw : w.PH p = none) : Tr w H (w.lay p o) (upd H p o) where
  ph := fun a u h => by
    show upd w.PH p o a = some u
    rw [upd_ne (ne_of_none h hw)]; exact h
  nw := fun a u h => by
    by_cases e : a = p
    · subst e; exact .inr (.inl hp)
    · have h' : upd w.PH p o a = some u := h
      rw [upd_ne e] at h'; exact .inl h'
  cs := ⟨[], by simp [Wd.lay]⟩
  csn := fun a h => .inl h
  keep := fun a u h _ _ => by rw [upd_ne (ne_of_none h hp)]; exact h
  there := fun a h => by
    by_cases e : a = p
    · subst e; exact absurd hp h
    · rw [upd_ne e]; exact h
theorem Rep.ph_none {w : Wd} {H : Hp} {c : Cells} (R : Rep S w H c) {p : Addr} (h : H p = none) : w.PH p = none := by
  cases e : w.PH p with
  | none => rfl
  | some o => rw [R.per p o e] at h; cases h
theorem tabs_upd {T : List NdefX.NTab} {H : Hp} {p : Addr} {o : HO} (h : NdefX.TabsN T H) (hp : H p = none) : NdefX.TabsN T (upd H p o) :=
  h.ext fun b u e => by rw [upd_ne (ne_of_none e hp)]; exact e
theorem Rep.cs_ne {w : Wd} {H : Hp} {c : Cells} (R : Rep S w H c) {p : Addr} (h : H p = none) : p ∉ w.cs := fun hm => by
  obtain ⟨n, hn, e⟩ := List.getElem_of_mem hm
  have hn' : n < c.length := by rw [← R.len]; exact hn
  obtain ⟨_, vs, q, _⟩ := R.cell n p c[n] (by rw [← e]; simp [hn]) (by simp [hn'])
  rw [h] at q; cases q
theorem Rep.lay {w : Wd} {H : Hp} {c : Cells} {p : Addr} {o : HO} (R : Rep S w H c) (hp : H p = none) : Rep S (w.lay p o) (upd H p o) c where
  per := fun a u h => by
    have h' : upd w.PH p o a = some u := h
    by_cases e : a = p
    · subst e; rw [upd_same] at h' ⊢; exact h'
    · rw [upd_ne e] at h' ⊢; exact R.per a u h'
  len := R.len
  nd := R.nd
  cell := fun n a l h1 h2 => by
    obtain ⟨q1, vs, q2, q3⟩ := R.cell n a l h1 h2
    have ne : a ≠ p := ne_of_none q2 hp
    refine ⟨?_, vs, ?_, q3.tr (Tr.lay hp (R.ph_none hp))⟩
    · show upd w.PH p o a = none
      rw [upd_ne ne]; exact q1
    · rw [upd_ne ne]; exact q2
  tab := tabs_upd R.tab hp
  tabP := fun q hq => by
    have z := R.tabP q hq
    obtain ⟨ps, e, _⟩ := R.tab q hq
    show upd w.PH p o q.1 = none
    rw [upd_ne (ne_of_none e hp)]; exact z

/-! ### what is wanted behind a reckoning -/
def EXR (S : Sta) (k : Nat) (d : D) (w : Wd) (H : Hp) (cls : Value) (dx : Option Addr) : Prop :=
  ∃ C at_ a v, S.X k = some (C, at_) ∧ cls = .ref C ∧ dx = some a ∧ H a = some (.xd [(at_, v)]) ∧ DV S w d v
def RE (S : Sta) (w : Wd) (H : Hp) (Q : VK) (E : XK) : Out → Prop
  | .ok d c => ∀ w' H' v, Tr w H w' H' → Rep S w' H' c → DV S w' d v → Q v H'
  | .exc k d c => ∀ w' H' cls dx, Tr w H w' H' → Rep S w' H' c → EXR S k d w' H' cls dx → E cls dx H'
def EnvR (S : Sta) (w : Wd) (env : Ev) (σ : L2.St) : Prop := env.length = σ.length ∧ ∀ (i : Nat) (d : D), env[i]? = some (some d) → ∃ v, σ[i]? = some (some v) ∧ DV S w d v
theorem EnvR.tr {w w' : Wd} {H H' : Hp} {env : Ev} {σ : L2.St} (e : EnvR S w env σ) (t : Tr w H w' H') : EnvR S w' env σ := ⟨e.1, fun i d h => let ⟨v, h1, h2⟩ := e.2 i d h; ⟨v, h1, h2.tr t⟩⟩
theorem EnvR.set {w : Wd} {env : Ev} {σ : L2.St} {d : D} {v : V} (e : EnvR S w env σ) (i : Nat) (q : DV S w d v) : EnvR S w (env.set i (some d)) (σ.set i (some v)) := by
  refine ⟨by simpa using e.1, fun j d' h => ?_⟩
  by_cases hj : i = j
  · subst hj
    by_cases hi : i < env.length
    · rw [List.getElem?_set_self hi] at h
      cases h
      exact ⟨v, by rw [List.getElem?_set_self (by rw [← e.1]; exact hi)], q⟩
    · rw [List.getElem?_eq_none (by simp; omega)] at h; cases h
  · rw [List.getElem?_set_ne hj] at h ⊢
    exact e.2 j d' h
theorem EnvR.weak {w : Wd} {env env' : Ev} {σ : L2.St} (e : EnvR S w env σ) (hl : env'.length = env.length) (h : ∀ (i : Nat) (d : D), env'[i]? = some (some d) → env[i]? = some (some d)) : EnvR S w env' σ :=
  ⟨hl.trans e.1, fun i d q => e.2 i d (h i d q)⟩

theorem RE.tr {w w1 : Wd} {H H1 : Hp} {Q : VK} {E : XK} {o : Out} (h : RE S w H Q E o) (t : Tr w H w1 H1) : RE S w1 H1 Q E o := by
  cases o with
  | ok d c => exact fun w' H' v t' R q => h w' H' v (t.trans t') R q
  | exc k d c => exact fun w' H' cls dx t' R q => h w' H' cls dx (t.trans t') R q
theorem RE.imp {w : Wd} {H : Hp} {Q Q' : VK} {E : XK} {o : Out} (h : RE S w H Q E o) (q : ∀ v H', Q v H' → Q' v H') : RE S w H Q' E o := by
  cases o with
  | ok d c => exact fun w' H' v t' R z => q _ _ (h w' H' v t' R z)
  | exc k d c => exact h

def tD (S : Sta) (E : XK) (f : SE) : TE := fun σ H Q => ∃ w env c o, Rep S w H c ∧ EnvR S w env σ ∧ f env c = some o ∧ RE S w H Q E o
def tT (S : Sta) (E : XK) (f : SE) : TT := fun σ H Q => ∃ w env c o, Rep S w H c ∧ EnvR S w env σ ∧ f env c = some o ∧ RE S w H (fun v H' => ∃ b, v = .bl b ∧ Q b H') E o

def bindO (m : Option Out) (f : D → Cells → Option Out) : Option Out := match m with
  | some (.ok d c) => f d c
  | x => x
theorem bindO_ok {d : D} {c : Cells} {f : D → Cells → Option Out} : bindO (some (.ok d c)) f = f d c := rfl
theorem bindO_none {f : D → Cells → Option Out} : bindO none f = none := rfl
theorem bindO_exc {k : Nat} {d : D} {c : Cells} {f : D → Cells → Option Out} : bindO (some (.exc k d c)) f = some (.exc k d c) := rfl

/-- a reckoning in two steps: the first one's reading, with the rest behind it -/
theorem tD_bind {E : XK} {f : SE} {g : Ev → D → Cells → Option Out} {σ : L2.St} {H : Hp} {Q Q' : VK} (h : tD S E (fun env c => bindO (f env c) (g env)) σ H Q)
    (k : ∀ w env d c v H1 o, Rep S w H1 c → EnvR S w env σ → DV S w d v → g env d c = some o → RE S w H1 Q E o → Q' v H1) : tD S E f σ H Q' := by
  obtain ⟨w, env, c, o, R, e, hf, hr⟩ := h
  have hf : bindO (f env c) (g env) = some o := hf
  cases hm : f env c with
  | none => rw [hm] at hf; cases hf
  | some m =>
    rw [hm] at hf
    cases m with
    | ok d c1 => exact ⟨w, env, c, _, R, e, hm, fun w1 H1 v t R1 q => k w1 env d c1 v H1 o R1 (e.tr t) q hf (hr.tr t)⟩
    | exc kk d c1 =>
      have hf' : some (Out.exc kk d c1) = some o := hf
      cases hf'
      exact ⟨w, env, c, _, R, e, hm, hr⟩
end
end G
set_option Elab.async false
set_option linter.all false
set_option maxRecDepth 100000
set_option maxHeartbeats 4000000
namespace G
open PySem PySem.Spec PyProof.Rows L2

/-! ### the context of a piece of text -/
structure Blt (mg : Str → Option Value) : Prop where
  isi : mg "isinstance" = none
  int : mg "int" = none
  bool : mg "bool" = none
  str : mg "str" = none
  tuple : mg "tuple" = none
  list : mg "list" = none
  len : mg "len" = none
  all : mg "all" = none
  any : mg "any" = none
  range : mg "range" = none
  zip : mg "zip" = none
  enum : mg "enumerate" = none
  max : mg "max" = none
  min : mg "min" = none
  abs : mg "abs" = none
  divmod : mg "divmod" = none
  sorted : mg "sorted" = none
  repr : mg "repr" = none
  set : mg "set" = none
  sum : mg "sum" = none

structure Tabl where
  fns : List (Str × List Str)
  cst : List (Str × D)
  bis : List (Str × String)
abbrev Fns := Nat → List D → Cells → Option Out
/-- a def's parameters are plain -/
structure KB (fd : FuncData) (ps : List Str) : Prop where
  po : fd.params.posonlyargs = []
  ar : fd.params.args.map (·.arg) = ps
  va : fd.params.vararg = none
  ko : fd.params.kwonlyargs = []
  ka : fd.params.kwarg = none
  df : fd.defaults = .none
/-- what stands for a def as a value may be called -/
structure FvOk (S : Sta) (P : Program) (w : World) (K : PySem.W.Frag) (mg : Str → Option Value) (base : Heap) (lv k : Nat) (g : List D → Cells → Option Out) : Prop where
  ref : ∀ H v, S.F k H v → ∃ f, v = .ref f
  fn : ∀ f H h, S.F k H (.ref f) → HOk P w H h → K.In h → PySem.W.FnAt f h
  run : ∀ (A : Around) (outer : List Env) (s : Shared) (H : Hp) (us : List Value) (vs : List V) (Q : VK) (E : XK) (f : Addr), Room lv A → A.guards = some [] → Env0 P w K mg base A outer s H → Vals vs us →
    (∃ wd ds c o, Rep S wd H c ∧ S.F k wd.PH (.ref f) ∧ DVs S wd ds vs ∧ g ds c = some o ∧ RE S wd H Q E o) → codeAny (model P w) A (.call (.ref f) ⟨us, []⟩) (CR (L2.CX P w) outer P w H s Q E) s
/-- the def at f reckons as g says -/
structure FnR (S : Sta) (P : Program) (w : World) (K : PySem.W.Frag) (mg : Str → Option Value) (base : Heap) (lv : Nat) (f : Addr) (fd : FuncData) (ps : List Str) (g : List D → Cells → Option Out) : Prop where
  run : ∀ (A : Around) (outer : List Env) (s : Shared) (H : Hp) (args : Args) (us : List Value) (vs : List V) (wd : Wd) (ds : List D) (c : Cells) (o : Out) (Q : VK) (E : XK), Room lv A → A.guards = some [] → Env0 P w K mg base A outer s H → BindsTo s fd args (ps.zip us) → Vals vs us →
    Rep S wd H c → DVs S wd ds vs → ds.length = ps.length → g ds c = some o → RE S wd H Q E o → codeAny (model P w) A (.call (.ref f) args) (CR (L2.CX P w) outer P w H s Q E) s
structure FnG (S : Sta) (P : Program) (w : World) (K : PySem.W.Frag) (mgv : Str → Option Value) (base : Heap) (g : List D → Cells → Option Out) (lv : Nat) (nm : Str) (ps : List Str) : Prop where
  mg : mgv nm = some (.ref (He.ga S.K nm))
  kp : PySem.W.keepIn K (.ref (He.ga S.K nm)) = true
  ok : ∃ fd, (∃ oc od sl, K.lookup (He.ga S.K nm) = some ⟨oc, od, .func fd, sl⟩) ∧ KB fd ps ∧ (∀ us : List Value, us.length = ps.length → bindArgs fd ⟨us, []⟩ = pure (ps.zip us)) ∧ FnR S P w K mgv base lv (He.ga S.K nm) fd ps g
theorem FnG.fl {S : Sta} {P : Program} {w : World} {K : PySem.W.Frag} {mgv : Str → Option Value} {base : Heap} {g : List D → Cells → Option Out} {lv : Nat} {nm : Str} {ps : List Str} (F : FnG S P w K mgv base g lv nm ps) : ∃ oc od fd sl, K.lookup (He.ga S.K nm) = some ⟨oc, od, .func fd, sl⟩ :=
  let ⟨fd, ⟨oc, od, sl, e⟩, _⟩ := F.ok
  ⟨oc, od, fd, sl, e⟩
abbrev FnI (S : Sta) (X : Cx) (φ : List D → Cells → Option Out) (lv : Nat) (nm : Str) (ps : List Str) : Prop := FnG S X.prog X.w X.K X.mg X.base φ lv nm ps
/-- what stands behind every body of one level -/
structure Gx (S : Sta) (B : Tabl) (φ : Fns) (lv : Nat) (P : Program) (w : World) (K : PySem.W.Frag) (mg : Str → Option Value) (base : Heap) : Prop where
  hK : K = S.K
  blt : Blt mg
  fn : ∀ (i : Nat) (nm : Str) (ps : List Str), B.fns[i]? = some (nm, ps) → FnG S P w K mg base (φ i) lv nm ps
  ct : ∀ (i : Nat) (nm : Str) (d : D), B.cst[i]? = some (nm, d) → ∃ u v, mg nm = some u ∧ RelV v u ∧ ∀ w, DV S w d v
  bi : ∀ (i : Nat) (nm : Str) (id : String), B.bis[i]? = some (nm, id) → mg nm = some (.builtin id)
  fv : ∀ k, FvOk S P w K mg base lv k (φ k)
structure Cxt (S : Sta) (B : Tabl) (φ : Fns) (lv : Nat) (X : Cx) (sc : Scope) (N : List Str) (E : XK) : Prop where
  hK : X.K = S.K
  hN : X.N = N
  nd : N.Nodup
  hs : X.env.scope = sc
  calm : X.calm = true
  tk : Takes X (fun cls d _ H => E cls d H)
  room : Room lv X.A
  grd : X.A.guards = some []
  blt : Blt X.mg
  fn : ∀ (i : Nat) (nm : Str) (ps : List Str), B.fns[i]? = some (nm, ps) → FnI S X (φ i) lv nm ps
  ct : ∀ (i : Nat) (nm : Str) (d : D), B.cst[i]? = some (nm, d) → ∃ u v, X.mg nm = some u ∧ RelV v u ∧ ∀ w, DV S w d v
  bi : ∀ (i : Nat) (nm : Str) (id : String), B.bis[i]? = some (nm, id) → X.mg nm = some (.builtin id)
  fv : ∀ k, FvOk S X.prog X.w X.K X.mg X.base lv k (φ k)

def visB (sc : Scope) (x : Str) : Bool := match sc.names.lookup x with
  | some .local => true
  | some .cell => true
  | some .free => true
  | _ => false
def glB (sc : Scope) (x : Str) : Bool := match sc.names.lookup x with
  | some .globalImplicit => true
  | _ => false
theorem vis_of {sc : Scope} {x : Str} (h : visB sc x = true) : Vis sc x := by
  unfold visB at h
  split at h <;> first | (rename_i e; exact .inl e) | (rename_i e; exact .inr (.inl e)) | (rename_i e; exact .inr (.inr e)) | cases h
theorem gl_of {X : Cx} {x : Str} (h : glB X.env.scope x = true) : Gl X x := by
  show X.env.scope.names.lookup x = some .globalImplicit
  unfold glB at h
  split at h
  · assumption
  · cases h

theorem _root_.L2.PE.imp {X : Cx} {e : Expr} {t t' : TE} (h : PE X e t) (k : ∀ σ H Q, t' σ H Q → t σ H Q) : PE X e t' := ⟨fun pins s σ H Q I q => h.run pins s σ H Q I (k σ H Q q)⟩
theorem _root_.L2.PT.imp {X : Cx} {e : Expr} {t t' : TT} (h : PT X e t) (k : ∀ σ H Q, t' σ H Q → t σ H Q) : PT X e t' := ⟨fun pins s σ H Q I q => h.run pins s σ H Q I (k σ H Q q)⟩
theorem _root_.L2.PW.imp {X : Cx} {e : Expr} {t t' : TT} (h : PW X e t) (k : ∀ σ H Q, t' σ H Q → t σ H Q) : PW X e t' := ⟨fun wh pins s σ H Q I q => h.run wh pins s σ H Q I (k σ H Q q)⟩
theorem _root_.L2.PA.imp {X : Cx} {e : List Expr} {t t' : TA} (h : PA X e t) (k : ∀ σ H Q, t' σ H Q → t σ H Q) : PA X e t' := ⟨fun pos pins s σ H Q I q => h.run pos pins s σ H Q I (k σ H Q q)⟩

section
variable {S : Sta} {B : Tabl} {φ : Fns} {lv : Nat} {X : Cx} {sc : Scope} {N : List Str} {E : XK} {pos : Pos}
theorem RE.now {w : Wd} {H : Hp} {c : Cells} {Q : VK} {d : D} {v : V} (R : Rep S w H c) (q : DV S w d v) (h : RE S w H Q E (.ok d c)) : Q v H := h w H v (Tr.refl w H) R q

/-! ### names, constants -/
def varE (i : Nat) : SE := fun env c => match env[i]? with
  | some (some d) => some (.ok d c)
  | _ => none
def cE (d : D) : SE := fun _ c => some (.ok d c)
/-- what is never come to -/
def noE : SE := fun _ _ => none
theorem ce_no {e : Expr} : PE X e (tD S E noE) := ⟨fun pins s σ H Q I h => by
  obtain ⟨w, env, c, o, _, _, hf, _⟩ := h
  cases hf⟩
theorem ce_var (C : Cxt S B φ lv X sc N E) (i : Nat) {x : Str} (hi : N[i]? = some x := by rfl) (hv : visB sc x = true := by decide +kernel) (hd : (x == ("__debug__" : Str)) = false := by decide +kernel)
    (hcd : (x == ("__classdict__" : Str)) = false := by decide +kernel) : PE X (.Name x pos) (tD S E (varE i)) := by
  refine (pe_var (i := i) (by rw [C.hN]; exact hi) (by rw [C.hs]; exact vis_of hv) hd hcd).imp fun σ H Q h => ?_
  obtain ⟨w, env, c, o, R, e, hf, hr⟩ := h
  unfold varE at hf
  split at hf
  · rename_i d hd'
    cases hf
    obtain ⟨v, h1, h2⟩ := e.2 i d hd'
    exact ⟨v, h1, RE.now R h2 hr⟩
  · cases hf
theorem tD_c {d : D} {v : V} (h : ∀ w, DV S w d v) : ∀ σ H Q, tD S E (cE d) σ H Q → tC v σ H Q := fun σ H Q ⟨w, env, c, o, R, e, hf, hr⟩ => by
  cases hf
  exact RE.now R (h w) hr
theorem ce_int {i : Int} {j : Nat} : PE X (.Constant (.int i) j pos) (tD S E (cE (.int i))) := pe_int.imp (tD_c fun w => by simp [DV])
theorem ce_bl {b : Bool} {j : Nat} : PE X (.Constant (.bool b) j pos) (tD S E (cE (.bl b))) := pe_bl.imp (tD_c fun w => by simp [DV])
theorem ce_non {j : Nat} : PE X (.Constant .none j pos) (tD S E (cE .non)) := pe_non.imp (tD_c fun w => by simp [DV])
theorem ce_str {x : Str} {j : Nat} : PE X (.Constant (.str x) j pos) (tD S E (cE (.str x))) := pe_str.imp (tD_c fun w => by simp [DV])
/-- a constant of the module -/
theorem ce_glob (C : Cxt S B φ lv X sc N E) (i : Nat) {x : Str} {d : D} (hi : B.cst[i]? = some (x, d) := by rfl) (hg : glB sc x = true := by decide +kernel) (hd : (x == ("__debug__" : Str)) = false := by decide +kernel) :
    PE X (.Name x pos) (tD S E (cE d)) := by
  obtain ⟨u, v, h1, h2, h3⟩ := C.ct i x d hi
  exact (pe_glob (gl_of (by rw [C.hs]; exact hg)) h1 h2 hd).imp (tD_c h3)

/-! ### operations on values -/
def e1 (op : D → Cells → Option Out) (f : SE) : SE := fun env c => bindO (f env c) op
def e2 (op : D → D → Cells → Option Out) (f g : SE) : SE := fun env c => bindO (f env c) fun x c1 => bindO (g env c1) fun y c2 => op x y c2
def Op1 (S : Sta) (E : XK) (r : V → Hp → VK → Prop) (op : D → Cells → Option Out) : Prop := ∀ w H c d x o (Q : VK), Rep S w H c → DV S w d x → op d c = some o → RE S w H Q E o → r x H Q
def Op2 (S : Sta) (E : XK) (r : R2) (op : D → D → Cells → Option Out) : Prop := ∀ w H c d e x y o (Q : VK), Rep S w H c → DV S w d x → DV S w e y → op d e c = some o → RE S w H Q E o → r x y H Q
theorem tD_e1 {r : V → Hp → VK → Prop} {op : D → Cells → Option Out} {f : SE} (h : Op1 S E r op) : ∀ σ H Q, tD S E (e1 op f) σ H Q → tUn r (tD S E f) σ H Q := fun σ H Q q =>
  tD_bind (g := fun _ => op) q fun w env d c v H1 o R e dv g re => h w H1 c d v o Q R dv g re
theorem tD_e2 {r : R2} {op : D → D → Cells → Option Out} {f g : SE} (h : Op2 S E r op) : ∀ σ H Q, tD S E (e2 op f g) σ H Q → tOp r (tD S E f) (tD S E g) σ H Q := fun σ H Q q =>
  tD_bind (g := fun env x c1 => bindO (g env c1) fun y c2 => op x y c2) q fun w env d c v H1 o R e dv hg re => by
    have hg : bindO (g env c) (fun y c2 => op d y c2) = some o := hg
    refine (show tD S E g σ H1 (fun y H2 => r v y H2 Q) from ?_)
    cases hm : g env c with
    | none => rw [hm] at hg; cases hg
    | some m =>
      rw [hm] at hg
      cases m with
      | ok d2 c2 => exact ⟨w, env, c, _, R, e, hm, fun w1 H2 y t R1 q1 => h w1 H2 c2 d d2 v y o Q R1 (dv.tr t) q1 hg (re.tr t)⟩
      | exc kk d2 c2 =>
        have hg' : some (Out.exc kk d2 c2) = some o := hg
        cases hg'
        exact ⟨w, env, c, _, R, e, hm, re⟩
theorem ce_op {a b : Expr} {op : Operator} {r : R2} {f2 : D → D → Cells → Option Out} {f g : SE} (ho : OpR X (binaryOp op) r) (h : Op2 S E r f2) (ha : PE X a (tD S E f)) (hb : PE X b (tD S E g)) : PE X (.BinOp a op b pos) (tD S E (e2 f2 f g)) :=
  (pe_op ho ha hb).imp (tD_e2 h)
theorem ce_cmp {a b : Expr} {op : CmpOp} {r : R2} {f2 : D → D → Cells → Option Out} {f g : SE} (ho : OpR X (compareOp op) r) (h : Op2 S E r f2) (ha : PE X a (tD S E f)) (hb : PE X b (tD S E g)) (hm : behindInMarks op b = false) :
    PE X (.Compare a [op] [b] pos) (tD S E (e2 f2 f g)) := (pe_cmpR ho ha hb hm).imp (tD_e2 h)
theorem tT_of {t : TE} {f : SE} (h : ∀ σ H Q, tD S E f σ H Q → t σ H Q) : ∀ σ H Q, tT S E f σ H Q → tTest t σ H Q := fun σ H Q q => h σ H _ q
theorem ct_cmp {a b : Expr} {op : CmpOp} {r : R2} {f2 : D → D → Cells → Option Out} {f g : SE} (ho : OpR X (compareOp op) r) (h : Op2 S E r f2) (ha : PE X a (tD S E f)) (hb : PE X b (tD S E g)) (hm : behindInMarks op b = false) :
    PT X (.Compare a [op] [b] pos) (tT S E (e2 f2 f g)) := (pt_cmpR ho ha hb hm).imp (tT_of (tD_e2 h))
/-- an expression whose value is True or False, as a test -/
theorem ct_val {e : Expr} {f : SE} (h : PE X e (tD S E f)) (he : ∀ whole, isTrue e X.env whole = (do let v ← whole; standAt e.pos; holding [v] (truthy v)) := by intro _; rfl) : PT X e (tT S E f) := pt_val h he

/-! ### and, or, not, if -/
def andK (g : SE) (env : Ev) : D → Cells → Option Out
  | .bl true, c => g env c
  | .bl false, c => some (.ok (.bl false) c)
  | _, _ => none
def orK (g : SE) (env : Ev) : D → Cells → Option Out
  | .bl false, c => g env c
  | .bl true, c => some (.ok (.bl true) c)
  | _, _ => none
def notK : D → Cells → Option Out
  | .bl b, c => some (.ok (.bl (!b)) c)
  | _, _ => none
def ifK (f g : SE) (env : Ev) : D → Cells → Option Out
  | .bl true, c => f env c
  | .bl false, c => g env c
  | _, _ => none
def andE (f g : SE) : SE := fun env c => bindO (f env c) (andK g env)
def orE (f g : SE) : SE := fun env c => bindO (f env c) (orK g env)
def notE (f : SE) : SE := fun env c => bindO (f env c) notK
def ifE (t f g : SE) : SE := fun env c => bindO (t env c) (ifK f g env)
theorem andK_bl {g : SE} {env : Ev} : ∀ {d : D} {c : Cells} {o : Out}, andK g env d c = some o → ∃ b, d = .bl b
  | .bl b, _, _, _ => ⟨b, rfl⟩
  | .non, _, _, h => nomatch h
  | .int _, _, _, h => nomatch h
  | .str _, _, _, h => nomatch h
  | .tup _, _, _, h => nomatch h
  | .lst _, _, _, h => nomatch h
  | .scr _, _, _, h => nomatch h
  | .cell _, _, _, h => nomatch h
  | .fn _, _, _, h => nomatch h
theorem orK_bl {g : SE} {env : Ev} : ∀ {d : D} {c : Cells} {o : Out}, orK g env d c = some o → ∃ b, d = .bl b
  | .bl b, _, _, _ => ⟨b, rfl⟩
  | .non, _, _, h => nomatch h
  | .int _, _, _, h => nomatch h
  | .str _, _, _, h => nomatch h
  | .tup _, _, _, h => nomatch h
  | .lst _, _, _, h => nomatch h
  | .scr _, _, _, h => nomatch h
  | .cell _, _, _, h => nomatch h
  | .fn _, _, _, h => nomatch h
theorem notK_bl : ∀ {d : D} {c : Cells} {o : Out}, notK d c = some o → ∃ b, d = .bl b
  | .bl b, _, _, _ => ⟨b, rfl⟩
  | .non, _, _, h => nomatch h
  | .int _, _, _, h => nomatch h
  | .str _, _, _, h => nomatch h
  | .tup _, _, _, h => nomatch h
  | .lst _, _, _, h => nomatch h
  | .scr _, _, _, h => nomatch h
  | .cell _, _, _, h => nomatch h
  | .fn _, _, _, h => nomatch h
theorem ifK_bl {f g : SE} {env : Ev} : ∀ {d : D} {c : Cells} {o : Out}, ifK f g env d c = some o → ∃ b, d = .bl b
  | .bl b, _, _, _ => ⟨b, rfl⟩
  | .non, _, _, h => nomatch h
  | .int _, _, _, h => nomatch h
  | .str _, _, _, h => nomatch h
  | .tup _, _, _, h => nomatch h
  | .lst _, _, _, h => nomatch h
  | .scr _, _, _, h => nomatch h
  | .cell _, _, _, h => nomatch h
  | .fn _, _, _, h => nomatch h
theorem dv_bl {w : Wd} {b : Bool} {v : V} (h : DV S w (.bl b) v) : v = .bl b := by simpa only [DV] using h
theorem dv_int {w : Wd} {i : Int} {v : V} (h : DV S w (.int i) v) : v = .int i := by simpa only [DV] using h
theorem dv_str {w : Wd} {x : Str} {v : V} (h : DV S w (.str x) v) : v = .str x := by simpa only [DV] using h
theorem dv_non {w : Wd} {v : V} (h : DV S w .non v) : v = .non := by simpa only [DV] using h
theorem dvBl {w : Wd} {b : Bool} : DV S w (.bl b) (.bl b) := by simp only [DV]
theorem dvInt {w : Wd} {b : Int} : DV S w (.int b) (.int b) := by simp only [DV]
theorem dvStr {w : Wd} {b : Str} : DV S w (.str b) (.str b) := by simp only [DV]
theorem dvNon {w : Wd} : DV S w .non .non := by simp only [DV]
/-- a test, then what hangs on it -/
theorem tT_bind {f : SE} {k : Ev → D → Cells → Option Out} {σ : L2.St} {H : Hp} {Q : VK} {Q' : Bool → Hp → Prop} (h : tD S E (fun env c => bindO (f env c) (k env)) σ H Q) (hb : ∀ {env d c o}, k env d c = some o → ∃ b, d = .bl b)
    (q : ∀ w env b c H1 o, Rep S w H1 c → EnvR S w env σ → k env (.bl b) c = some o → RE S w H1 Q E o → Q' b H1) : tT S E f σ H Q' := by
  refine tD_bind h fun w env d c v H1 o R e dv g re => ?_
  obtain ⟨b, rfl⟩ := hb g
  exact ⟨b, dv_bl dv, q w env b c H1 o R e g re⟩
theorem tT_and {f g : SE} : ∀ σ H Q, tT S E (andE f g) σ H Q → tAnd (tT S E f) (tT S E g) σ H Q := fun σ H Q q => by
  refine tT_bind (k := andK g) q andK_bl fun w env b c H1 o R e k re => ?_
  cases b with
  | true => exact ⟨w, env, c, o, R, e, k, re⟩
  | false =>
    cases k
    obtain ⟨b, e1, q1⟩ := RE.now R dvBl re
    cases e1
    exact q1
theorem tT_or {f g : SE} : ∀ σ H Q, tT S E (orE f g) σ H Q → tOr (tT S E f) (tT S E g) σ H Q := fun σ H Q q => by
  refine tT_bind (k := orK g) q orK_bl fun w env b c H1 o R e k re => ?_
  cases b with
  | false => exact ⟨w, env, c, o, R, e, k, re⟩
  | true =>
    cases k
    obtain ⟨b, e1, q1⟩ := RE.now R dvBl re
    cases e1
    exact q1
theorem cw_and1 {a : Expr} {f : SE} (ha : PT X a (tT S E f)) : PW X (.BoolOp .And [a] pos) (tT S E f) := pw_and1 ha
theorem cw_or1 {a : Expr} {f : SE} (ha : PT X a (tT S E f)) : PW X (.BoolOp .Or [a] pos) (tT S E f) := pw_or1 ha
theorem cw_and {a b : Expr} {rest : List Expr} {f g : SE} (ha : PT X a (tT S E f)) (hb : PW X (.BoolOp .And (b :: rest) pos) (tT S E g)) : PW X (.BoolOp .And (a :: b :: rest) pos) (tT S E (andE f g)) := (pw_and ha hb).imp tT_and
theorem cw_or {a b : Expr} {rest : List Expr} {f g : SE} (ha : PT X a (tT S E f)) (hb : PW X (.BoolOp .Or (b :: rest) pos) (tT S E g)) : PW X (.BoolOp .Or (a :: b :: rest) pos) (tT S E (orE f g)) := (pw_or ha hb).imp tT_or
theorem ct_not {a : Expr} {f : SE} (ha : PT X a (tT S E f)) : PT X (.UnaryOp .Not a pos) (tT S E (notE f)) := by
  refine (pt_not ha).imp fun σ H Q q => ?_
  refine tT_bind (k := fun _ => notK) q notK_bl fun w env b c H1 o R e k re => ?_
  cases k
  obtain ⟨b, e1, q1⟩ := RE.now R dvBl re
  cases e1
  exact q1
theorem ce_one {op : BoolOp} {a : Expr} {f : SE} (h : PE X a (tD S E f)) : PE X (.BoolOp op [a] pos) (tD S E f) := pe_one h
theorem ce_and {a b : Expr} {rest : List Expr} {f g : SE} (ha : PE X a (tD S E f)) (hb : PE X (.BoolOp .And (b :: rest) pos) (tD S E g)) : PE X (.BoolOp .And (a :: b :: rest) pos) (tD S E (andE f g)) := by
  refine (pe_and ha hb).imp fun σ H Q q => ?_
  refine tD_bind (g := andK g) q fun w env d c v H1 o R e dv k re => ?_
  obtain ⟨b, rfl⟩ := andK_bl k
  refine ⟨b, dv_bl dv, ?_⟩
  cases b with
  | true => exact ⟨w, env, c, o, R, e, k, re⟩
  | false =>
    cases k
    exact RE.now R dvBl re
theorem ce_or {a b : Expr} {rest : List Expr} {f g : SE} (ha : PE X a (tD S E f)) (hb : PE X (.BoolOp .Or (b :: rest) pos) (tD S E g)) : PE X (.BoolOp .Or (a :: b :: rest) pos) (tD S E (orE f g)) := by
  refine (pe_or ha hb).imp fun σ H Q q => ?_
  refine tD_bind (g := orK g) q fun w env d c v H1 o R e dv k re => ?_
  obtain ⟨b, rfl⟩ := orK_bl k
  refine ⟨b, dv_bl dv, ?_⟩
  cases b with
  | false => exact ⟨w, env, c, o, R, e, k, re⟩
  | true =>
    cases k
    exact RE.now R dvBl re
theorem ce_not {a : Expr} {f : SE} (ha : PE X a (tD S E f)) : PE X (.UnaryOp .Not a pos) (tD S E (notE f)) := by
  refine (pe_not ha).imp fun σ H Q q => ?_
  refine tD_bind (g := fun _ => notK) q fun w env d c v H1 o R e dv k re => ?_
  obtain ⟨b, rfl⟩ := notK_bl k
  cases k
  exact ⟨_, dv_bl dv, RE.now R dvBl re⟩
theorem ce_ifExp {t a b : Expr} {tt f g : SE} (ht : PT X t (tT S E tt)) (ha : PE X a (tD S E f)) (hb : PE X b (tD S E g)) : PE X (.IfExp t a b pos) (tD S E (ifE tt f g)) := by
  refine (pe_ifExp ht ha hb).imp fun σ H Q q => ?_
  refine tT_bind (k := ifK f g) q ifK_bl fun w env b c H1 o R e k re => ?_
  cases b with
  | true => exact ⟨w, env, c, o, R, e, k, re⟩
  | false => exact ⟨w, env, c, o, R, e, k, re⟩
end
end G
set_option Elab.async false
set_option linter.all false
set_option maxRecDepth 100000
set_option maxHeartbeats 4000000
namespace G
open PySem PySem.Spec PyProof.Rows L2

/-! ### data that may be compared -/
mutual
def toPy : D → PyData
  | .bl b => .bool b
  | .int i => .int i
  | .str s => .str s
  | .tup xs => .tuple (toPys xs)
  | .lst xs => .list (toPys xs)
  | _ => .none
def toPys : List D → List PyData
  | [] => []
  | x :: xs => toPy x :: toPys xs
end
mutual
/-- nested at most so deep, and data alone -/
def fit : Nat → D → Bool
  | _, .non => true
  | _, .bl _ => true
  | _, .int _ => true
  | _, .str s => PyData.strOk s
  | n + 1, .tup xs => fits n xs
  | n + 1, .lst xs => fits n xs
  | _, _ => false
def fits : Nat → List D → Bool
  | _, [] => true
  | n, x :: xs => fit n x && fits n xs
end
mutual
def eqD : D → D → Bool
  | .non, .non => true
  | .bl a, .bl b => a == b
  | .bl a, .int j => (if a then 1 else 0) == j
  | .int i, .bl b => i == (if b then 1 else 0)
  | .int i, .int j => i == j
  | .str x, .str y => x == y
  | .lst xs, .lst ys => eqDs xs ys
  | .tup xs, .tup ys => eqDs xs ys
  | _, _ => false
def eqDs : List D → List D → Bool
  | [], [] => true
  | x :: xs, y :: ys => eqD x y && eqDs xs ys
  | _, _ => false
end
/-- a list that changes, as it is now -/
def rs (c : Cells) : D → D
  | .cell n => match c[n]? with
    | some l => .lst l
    | none => .cell n
  | d => d
section
variable {S : Sta} {w : Wd} {H : Hp}
mutual
theorem fit_dp (hp : ∀ a o, w.PH a = some o → H a = some o) : ∀ (n : Nat) (d : D) (v : V), fit n d = true → DV S w d v → Dp S.K H v (toPy d)
  | _, .non, v, _, h => by rw [show v = .non from by simpa only [DV] using h]; simp only [toPy]; exact .non
  | _, .bl b, v, _, h => by rw [show v = .bl b from by simpa only [DV] using h]; simp only [toPy]; exact .bl b
  | _, .int i, v, _, h => by rw [show v = .int i from by simpa only [DV] using h]; simp only [toPy]; exact .int i
  | _, .str i, v, _, h => by rw [show v = .str i from by simpa only [DV] using h]; simp only [toPy]; exact .str i
  | 0, .tup _, _, h, _ => by simp [fit] at h
  | 0, .lst _, _, h, _ => by simp [fit] at h
  | n + 1, .tup xs, v, hf, h => by
    simp only [DV] at h
    obtain ⟨a, vs, rfl, q, r⟩ := h
    simp only [toPy]
    exact .tup (sqt_mono hp q) (fits_dp hp n xs vs (by simpa only [fit] using hf) r)
  | n + 1, .lst xs, v, hf, h => by
    simp only [DV] at h
    obtain ⟨a, vs, rfl, q, r⟩ := h
    simp only [toPy]
    exact .lst (SqL.of (hp _ _ q)) (fits_dp hp n xs vs (by simpa only [fit] using hf) r)
  | n, .cell _, _, h, _ => by cases n <;> simp [fit] at h
  | n, .scr _, _, h, _ => by cases n <;> simp [fit] at h
  | n, .fn _, _, h, _ => by cases n <;> simp [fit] at h
theorem fits_dp (hp : ∀ a o, w.PH a = some o → H a = some o) : ∀ (n : Nat) (ds : List D) (vs : List V), fits n ds = true → DVs S w ds vs → DpAll S.K H vs (toPys ds)
  | _, [], vs, _, h => by
    simp only [DVs] at h
    subst h
    simp only [toPys]
    exact .nil
  | n, d :: ds, vs, hf, h => by
    simp only [fits, Bool.and_eq_true] at hf
    simp only [DVs] at h
    obtain ⟨v, r, rfl, q, t⟩ := h
    simp only [toPys]
    exact .cons (fit_dp hp n d v hf.1 q) (fits_dp hp n ds r hf.2 t)
end
mutual
theorem fit_lay : ∀ (n : Nat) (d : D), fit n d = true → (toPy d).canLay0 = true ∧ (toPy d).depth ≤ n
  | _, .non, _ => by simp [toPy, PyData.canLay0, PyData.depth]
  | _, .bl b, _ => by simp [toPy, PyData.canLay0, PyData.depth]
  | _, .int i, _ => by simp [toPy, PyData.canLay0, PyData.depth]
  | n, .str i, h => by
    have h' : PyData.strOk i = true := by cases n <;> simpa only [fit] using h
    simp [toPy, PyData.canLay0, PyData.depth]; exact h'
  | 0, .tup _, h => by simp [fit] at h
  | 0, .lst _, h => by simp [fit] at h
  | n + 1, .tup xs, h => by
    have q := fits_lay n xs (by simpa only [fit] using h)
    simp only [toPy, PyData.canLay0, PyData.depth]
    exact ⟨q.1, by omega⟩
  | n + 1, .lst xs, h => by
    have q := fits_lay n xs (by simpa only [fit] using h)
    simp only [toPy, PyData.canLay0, PyData.depth]
    exact ⟨q.1, by omega⟩
  | n, .cell _, h => by cases n <;> simp [fit] at h
  | n, .scr _, h => by cases n <;> simp [fit] at h
  | n, .fn _, h => by cases n <;> simp [fit] at h
theorem fits_lay : ∀ (n : Nat) (ds : List D), fits n ds = true → PyData.canLayAll0 (toPys ds) = true ∧ PyData.depthAll (toPys ds) ≤ n
  | _, [], _ => by simp [toPys, PyData.canLayAll0, PyData.depthAll]
  | n, d :: ds, h => by
    simp only [fits, Bool.and_eq_true] at h
    have q1 := fit_lay n d h.1
    have q2 := fits_lay n ds h.2
    simp only [toPys, PyData.canLayAll0, PyData.depthAll, Bool.and_eq_true]
    exact ⟨⟨q1.1, q2.1⟩, by omega⟩
end
theorem fit_shaped {n : Nat} {d : D} (h : fit n d = true) (hn : n ≤ 64) : SeqAt.shaped (toPy d) = true := by
  have q := fit_lay n d h
  unfold SeqAt.shaped
  rw [q.1, decide_eq_true (by omega)] <;> rfl
mutual
theorem eqv_toPy : ∀ (n m : Nat) (a b : D), fit n a = true → fit m b = true → PyData.eqv (toPy a) (toPy b) = eqD a b := fun n m a b ha hb => by
  cases a with
  | cell _ => cases n <;> simp [fit] at ha
  | scr _ => cases n <;> simp [fit] at ha
  | fn _ => cases n <;> simp [fit] at ha
  | tup xs =>
    cases n with
    | zero => simp [fit] at ha
    | succ n =>
      cases b with
      | tup ys =>
        cases m with
        | zero => simp [fit] at hb
        | succ m =>
          simp only [toPy, PyData.eqv, eqD]
          exact eqv_toPys n m xs ys (by simpa only [fit] using ha) (by simpa only [fit] using hb)
      | cell _ => cases m <;> simp [fit] at hb
      | scr _ => cases m <;> simp [fit] at hb
      | fn _ => cases m <;> simp [fit] at hb
      | _ => simp [toPy, PyData.eqv, eqD]
  | lst xs =>
    cases n with
    | zero => simp [fit] at ha
    | succ n =>
      cases b with
      | lst ys =>
        cases m with
        | zero => simp [fit] at hb
        | succ m =>
          simp only [toPy, PyData.eqv, eqD]
          exact eqv_toPys n m xs ys (by simpa only [fit] using ha) (by simpa only [fit] using hb)
      | cell _ => cases m <;> simp [fit] at hb
      | scr _ => cases m <;> simp [fit] at hb
      | fn _ => cases m <;> simp [fit] at hb
      | _ => simp [toPy, PyData.eqv, eqD]
  | _ =>
    cases b with
    | cell _ => cases m <;> simp [fit] at hb
    | scr _ => cases m <;> simp [fit] at hb
    | fn _ => cases m <;> simp [fit] at hb
    | _ => simp [toPy, PyData.eqv, eqD]
termination_by n m a => sizeOf a
theorem eqv_toPys : ∀ (n m : Nat) (as bs : List D), fits n as = true → fits m bs = true → PyData.eqvAll (toPys as) (toPys bs) = eqDs as bs
  | n, m, [], bs, _, _ => by cases bs <;> simp [toPys, PyData.eqvAll, eqDs]
  | n, m, a :: as, [], _, _ => by simp [toPys, PyData.eqvAll, eqDs]
  | n, m, a :: as, b :: bs, ha, hb => by
    simp only [fits, Bool.and_eq_true] at ha hb
    simp only [toPys, PyData.eqvAll, eqDs]
    rw [eqv_toPy n m a b ha.1 hb.1, eqv_toPys n m as bs ha.2 hb.2]
termination_by n m as => sizeOf as
end
end
end G
set_option Elab.async false
set_option linter.all false
set_option maxRecDepth 100000
set_option maxHeartbeats 4000000
namespace G
open PySem PySem.Spec PyProof.Rows L2

def okd (d : D) (c : Cells) : Option Out := some (.ok d c)
def lview (c : Cells) (d : D) : Option (List D) := match rs c d with
  | .lst xs => some xs
  | _ => none
def sview (c : Cells) (d : D) : Option (List D) := match rs c d with
  | .lst xs => some xs
  | .scr xs => some xs
  | .tup xs => some xs
  | _ => none
section
variable {S : Sta} {B : Tabl} {φ : Fns} {lv : Nat} {X : Cx} {sc : Scope} {N : List Str} {E : XK} {pos : Pos}
section
variable {w : Wd} {H : Hp} {c : Cells}
/-- what a list that is there holds now -/
theorem rs_cell {n : Nat} {v : V} {l : List D} (R : Rep S w H c) (h : DV S w (.cell n) v) (e : rs c (.cell n) = .lst l) : ∃ a vs, v = .ref a ∧ w.cs[n]? = some a ∧ H a = some (.lst vs) ∧ DVs S w l vs ∧ c[n]? = some l := by
  simp only [DV] at h
  obtain ⟨a, h1, h2⟩ := h
  unfold rs at e
  cases hc : c[n]? with
  | none => simp only [hc] at e; cases e
  | some l' =>
    simp only [hc] at e
    have e' : l' = l := by simpa using e
    subst e'
    obtain ⟨_, vs, q1, q2⟩ := R.cell n a l' h1 hc
    exact ⟨a, vs, h2, h1, q1, q2, rfl⟩
theorem rs_ne {d : D} (h : ∀ n, d ≠ .cell n) : rs c d = d := by cases d <;> first | rfl | exact absurd rfl (h _)
theorem rs_keep {d e : D} (h : rs c d = e) (hl : ∀ l, e ≠ .lst l) (hc : ∀ n, e ≠ .cell n) : d = e := by
  cases d with
  | cell k =>
    unfold rs at h
    cases hk : c[k]? with
    | none => simp only [hk] at h; exact absurd h.symm (hc k)
    | some l => simp only [hk] at h; exact absurd h.symm (hl l)
  | _ => exact h
theorem lview_ok {d : D} {v : V} {l : List D} (R : Rep S w H c) (h : DV S w d v) (e : lview c d = some l) : ∃ a vs, v = .ref a ∧ H a = some (.lst vs) ∧ DVs S w l vs := by
  unfold lview at e
  split at e
  · rename_i xs hx
    have e' : xs = l := by simpa using e
    subst e'
    by_cases hd : ∃ n, d = .cell n
    · obtain ⟨n, rfl⟩ := hd
      obtain ⟨a, vs, h1, _, h2, h3, _⟩ := rs_cell R h hx
      exact ⟨a, vs, h1, h2, h3⟩
    · rw [rs_ne fun n z => hd ⟨n, z⟩] at hx
      subst hx
      simp only [DV] at h
      obtain ⟨a, vs, h1, h2, h3⟩ := h
      exact ⟨a, vs, h1, R.per _ _ h2, h3⟩
  · cases e
theorem dv_tup {xs : List D} {v : V} (R : Rep S w H c) (h : DV S w (.tup xs) v) : ∃ a vs, v = .ref a ∧ SqT S.K H a vs ∧ DVs S w xs vs := by
  simp only [DV] at h
  obtain ⟨a, vs, h1, h2, h3⟩ := h
  exact ⟨a, vs, h1, sqt_mono R.per h2, h3⟩
theorem sview_ok {d : D} {v : V} {l : List D} (R : Rep S w H c) (h : DV S w d v) (e : sview c d = some l) : ∃ a vs, v = .ref a ∧ (SqL S.K H a vs ∨ SqT S.K H a vs) ∧ DVs S w l vs := by
  unfold sview at e
  split at e
  · rename_i xs hx
    have e' : xs = l := by simpa using e
    subst e'
    obtain ⟨a, vs, h1, h2, h3⟩ := lview_ok R h (l := xs) (by unfold lview; rw [hx])
    exact ⟨a, vs, h1, .inl (SqL.of h2), h3⟩
  · rename_i xs hx
    have e' : xs = l := by simpa using e
    subst e'
    have hd := rs_keep hx (fun _ z => nomatch z) (fun _ z => nomatch z)
    subst hd
    simp only [DV] at h
    obtain ⟨a, vs, h1, h2, h3⟩ := h
    exact ⟨a, vs, h1, .inl (sql_mono R.per h2), h3⟩
  · rename_i xs hx
    have e' : xs = l := by simpa using e
    subst e'
    have hd := rs_keep hx (fun _ z => nomatch z) (fun _ z => nomatch z)
    subst hd
    obtain ⟨a, vs, h1, h2, h3⟩ := dv_tup R h
    exact ⟨a, vs, h1, .inr h2, h3⟩
  · cases e
/-- compared data, a list that changes among it -/
theorem rs_dp {n : Nat} {d : D} {v : V} (R : Rep S w H c) (h : DV S w d v) (hf : fit n (rs c d) = true) : Dp S.K H v (toPy (rs c d)) := by
  by_cases hd : ∃ k, d = .cell k
  · obtain ⟨k, rfl⟩ := hd
    cases hc : c[k]? with
    | none =>
      have e : rs c (.cell k) = .cell k := by unfold rs; simp only [hc]
      rw [e] at hf
      cases n <;> simp [fit] at hf
    | some l =>
      have e : rs c (.cell k) = .lst l := by unfold rs; simp only [hc]
      obtain ⟨a, vs, h1, _, h2, h3, _⟩ := rs_cell R h e
      rw [e] at hf ⊢
      cases n with
      | zero => simp [fit] at hf
      | succ n =>
        subst h1
        simp only [toPy]
        exact .lst (SqL.of h2) (fits_dp R.per n l vs (by simpa only [fit] using hf) h3)
  · rw [rs_ne fun k z => hd ⟨k, z⟩] at hf ⊢
    exact fit_dp R.per n d v hf h
end

/-! ### arithmetic -/
def sz (n : Nat) : Bool := decide (n ≤ 100000)
theorem sz_ok {n : Nat} (h : sz n = true) : n ≤ sizeLine := Nat.le_trans (of_decide_eq_true h) (by decide)
theorem sz_lt {n : Nat} (h : sz n = true) : n < sizeLine := Nat.lt_of_le_of_lt (of_decide_eq_true h) (by decide)
def subK : D → D → Cells → Option Out
  | .int i, .int j, c => okd (.int (i - j)) c
  | _, _, _ => none
def mulOk (i j : Int) : Bool := (decide (-(2 ^ 64) < i) && decide (i < 2 ^ 64)) || (decide (-(2 ^ 64) < j) && decide (j < 2 ^ 64))
def mulK : D → D → Cells → Option Out
  | .int i, .int j, c => if mulOk i j then okd (.int (i * j)) c else none
  | _, _, _ => none
def divOk (j : Int) : Bool := decide (j ≠ 0) && decide (j.natAbs < 1073741824)
def divK : D → D → Cells → Option Out
  | .int i, .int j, c => if divOk j then okd (.int (i.fdiv j)) c else none
  | _, _, _ => none
def modK : D → D → Cells → Option Out
  | .int i, .int j, c => if decide (j ≠ 0) then okd (.int (i.fmod j)) c else none
  | _, _, _ => none
def powK : D → D → Cells → Option Out
  | .int i, .int j, c => if decide (0 ≤ j) && decide (j ≤ 1000000) && decide (i.natAbs < 2 ^ 64) then okd (.int (i ^ j.toNat)) c else none
  | _, _, _ => none
theorem op2_int {r : Int → Int → V} {k : Int → Int → Bool} {C : Int → Int → Prop} {op : D → D → Cells → Option Out} (g : Int → Int → Int) (hr : ∀ i j, r i j = .int (g i j)) (hC : ∀ i j, k i j = true → C i j)
    (h : ∀ d e c o, op d e c = some o → ∃ i j, d = .int i ∧ e = .int j ∧ k i j = true ∧ o = .ok (.int (g i j)) c) : Op2 S E (rI C r) op := fun w H c d e x y o Q R hx hy ho hre => by
  obtain ⟨i, j, rfl, rfl, hk, rfl⟩ := h d e c o ho
  refine ⟨i, j, dv_int hx, dv_int hy, hC i j hk, ?_⟩
  rw [hr]
  exact RE.now R dvInt hre
theorem op2_sub : Op2 S E (rI0 fun i j => .int (i - j)) subK := fun w H c d e x y o Q R hx hy ho hre => by
  cases d <;> first | cases ho | skip
  cases e <;> first | cases ho | skip
  exact ⟨_, _, dv_int hx, dv_int hy, RE.now R dvInt hre⟩
theorem op2_mul : Op2 S E (rI CMul fun i j => .int (i * j)) mulK := op2_int (k := mulOk) (fun i j => i * j) (fun _ _ => rfl) (fun i j h => by
  unfold mulOk at h
  simp only [Bool.or_eq_true, Bool.and_eq_true, decide_eq_true_eq] at h
  exact h) fun d e c o h => by
  cases d <;> first | cases h | skip
  cases e <;> first | cases h | skip
  simp only [mulK] at h
  split at h
  · exact ⟨_, _, rfl, rfl, by assumption, (Option.some.inj h).symm⟩
  · cases h
theorem op2_div : Op2 S E (rI CDivN fun i j => .int (i.fdiv j)) divK := op2_int (k := fun _ j => divOk j) (fun i j => i.fdiv j) (fun _ _ => rfl) (fun i j h => by
  unfold divOk at h
  simp only [Bool.and_eq_true, decide_eq_true_eq] at h
  exact h) fun d e c o h => by
  cases d <;> first | cases h | skip
  cases e <;> first | cases h | skip
  simp only [divK] at h
  split at h
  · exact ⟨_, _, rfl, rfl, by assumption, (Option.some.inj h).symm⟩
  · cases h
theorem op2_mod : Op2 S E (rI (fun _ j => j ≠ 0) fun i j => .int (i.fmod j)) modK := op2_int (k := fun _ j => decide (j ≠ 0)) (fun i j => i.fmod j) (fun _ _ => rfl) (fun i j h => of_decide_eq_true h) fun d e c o h => by
  cases d <;> first | cases h | skip
  cases e <;> first | cases h | skip
  simp only [modK] at h
  split at h
  · exact ⟨_, _, rfl, rfl, by assumption, (Option.some.inj h).symm⟩
  · cases h
theorem op2_pow : Op2 S E (rI CPow fun i j => .int (i ^ j.toNat)) powK := op2_int (k := fun i j => decide (0 ≤ j) && decide (j ≤ 1000000) && decide (i.natAbs < 2 ^ 64)) (fun i j => i ^ j.toNat) (fun _ _ => rfl) (fun i j h => by
  simp only [Bool.and_eq_true, decide_eq_true_eq] at h
  exact ⟨h.1.1, h.1.2, h.2⟩) fun d e c o h => by
  cases d <;> first | cases h | skip
  cases e <;> first | cases h | skip
  simp only [powK] at h
  split at h
  · exact ⟨_, _, rfl, rfl, by assumption, (Option.some.inj h).symm⟩
  · cases h
theorem ce_sub {a b : Expr} {f g : SE} (ha : PE X a (tD S E f)) (hb : PE X b (tD S E g)) : PE X (.BinOp a .Sub b pos) (tD S E (e2 subK f g)) := ce_op op_sub op2_sub ha hb
theorem ce_mul {a b : Expr} {f g : SE} (ha : PE X a (tD S E f)) (hb : PE X b (tD S E g)) : PE X (.BinOp a .Mult b pos) (tD S E (e2 mulK f g)) := ce_op op_mul op2_mul ha hb
theorem ce_div {a b : Expr} {f g : SE} (ha : PE X a (tD S E f)) (hb : PE X b (tD S E g)) : PE X (.BinOp a .FloorDiv b pos) (tD S E (e2 divK f g)) := ce_op op_fdivN op2_div ha hb
theorem ce_mod {a b : Expr} {f g : SE} (ha : PE X a (tD S E f)) (hb : PE X b (tD S E g)) : PE X (.BinOp a .Mod b pos) (tD S E (e2 modK f g)) := ce_op op_modN op2_mod ha hb
theorem ce_pow {a b : Expr} {f g : SE} (ha : PE X a (tD S E f)) (hb : PE X b (tD S E g)) : PE X (.BinOp a .Pow b pos) (tD S E (e2 powK f g)) := ce_op op_pow op2_pow ha hb
def negK : D → Cells → Option Out
  | .int i, c => okd (.int (-i)) c
  | _, _ => none
theorem ce_neg {a : Expr} {f : SE} (ha : PE X a (tD S E f)) : PE X (.UnaryOp .USub a pos) (tD S E (e1 negK f)) := by
  refine (pe_un un_neg ha).imp (tD_e1 fun w H c d x o Q R hx ho hre => ?_)
  cases d <;> first | cases ho | skip
  exact ⟨_, dv_int hx, RE.now R dvInt hre⟩

/-- + of numbers, texts, tuples, lists -/
theorem re_tup {w : Wd} {H : Hp} {c : Cells} {Q : VK} {xs : List D} {vs : List V} {p : Addr} (R : Rep S w H c) (hv : DVs S w xs vs) (hp : H p = none) (h : RE S w H Q E (.ok (.tup xs) c)) : Q (.ref p) (upd H p (.tup vs)) := by
  have hw := R.ph_none hp
  refine h _ _ _ (Tr.lay hp hw) (R.lay hp) ?_
  simp only [DV]
  exact ⟨p, vs, rfl, SqT.of upd_same, hv.tr (Tr.lay hp hw)⟩
theorem re_lst {w : Wd} {H : Hp} {c : Cells} {Q : VK} {xs : List D} {vs : List V} {p : Addr} (R : Rep S w H c) (hv : DVs S w xs vs) (hp : H p = none) (h : RE S w H Q E (.ok (.lst xs) c)) : Q (.ref p) (upd H p (.lst vs)) := by
  have hw := R.ph_none hp
  refine h _ _ _ (Tr.lay hp hw) (R.lay hp) ?_
  simp only [DV]
  exact ⟨p, vs, rfl, upd_same, hv.tr (Tr.lay hp hw)⟩
theorem DVs.nil_iff {w : Wd} {xs : List D} {vs : List V} (h : DVs S w xs vs) : vs = [] ↔ xs = [] := by
  have := h.length
  constructor
  · rintro rfl; exact List.eq_nil_of_length_eq_zero (by simpa using this)
  · rintro rfl; exact List.eq_nil_of_length_eq_zero (by simpa using this.symm)
def rAddD (K : PySem.W.Frag) : R2 := fun x y H Q => (rI0 fun i j => .int (i + j)) x y H Q ∨ (∃ i j, x = .str i ∧ y = .str j ∧ i.length + j.length ≤ sizeLine ∧ Q (.str (i ++ j)) H) ∨ rCatA K x y H Q ∨ rCat x y H Q
theorem op_addD : OpR X (binaryOp .Add) (rAddD X.K) := op_add.or (op_add_str.or (op_catA.or op_cat))
def addK : D → D → Cells → Option Out
  | .int i, .int j, c => okd (.int (i + j)) c
  | .str x, .str y, c => if sz (x.length + y.length) then okd (.str (x ++ y)) c else none
  | .tup xs, .tup ys, c => if sz (xs.length + ys.length) then okd (.tup (xs ++ ys)) c else none
  | x, y, c => match lview c x, lview c y with
    | some xs, some ys => if sz (xs.length + ys.length) then okd (.lst (xs ++ ys)) c else none
    | _, _ => none
theorem op2_add (hK : X.K = S.K) : Op2 S E (rAddD X.K) addK := fun w H c d e x y o Q R hx hy ho hre => by
  rw [hK]
  unfold addK at ho
  split at ho
  · cases ho
    exact .inl ⟨_, _, dv_int hx, dv_int hy, RE.now R dvInt hre⟩
  · split at ho
    · rename_i hz
      cases ho
      exact .inr (.inl ⟨_, _, dv_str hx, dv_str hy, sz_ok hz, RE.now R dvStr hre⟩)
    · cases ho
  · split at ho
    · rename_i xs ys hz
      cases ho
      obtain ⟨a, vs, h1, h2, h3⟩ := dv_tup R hx
      obtain ⟨b, us, h4, h5, h6⟩ := dv_tup R hy
      have l1 := h3.length
      have l2 := h6.length
      refine .inr (.inr (.inl ⟨a, b, vs, us, h1, h4, h2, h5, by rw [← l1, ← l2]; exact sz_ok hz, fun e => ?_, fun _ e => ?_, fun _ _ p hp => re_tup R (h3.append h6) hp hre⟩))
      · rw [h3.nil_iff] at e
        subst e
        rw [← h4]
        exact RE.now R hy hre
      · rw [h6.nil_iff] at e
        subst e
        rw [List.append_nil] at hre
        rw [← h1]
        exact RE.now R hx hre
    · cases ho
  · split at ho
    · rename_i xs ys e1 e2
      split at ho
      · rename_i hz
        cases ho
        obtain ⟨a, vs, h1, h2, h3⟩ := lview_ok R hx e1
        obtain ⟨b, us, h4, h5, h6⟩ := lview_ok R hy e2
        have l1 := h3.length
        have l2 := h6.length
        exact .inr (.inr (.inr ⟨a, b, vs, us, h1, h4, h2, h5, by rw [← l1, ← l2]; exact sz_ok hz, fun p hp => re_lst R (h3.append h6) hp hre⟩))
      · cases ho
    · cases ho
theorem ce_add (C : Cxt S B φ lv X sc N E) {a b : Expr} {f g : SE} (ha : PE X a (tD S E f)) (hb : PE X b (tD S E g)) : PE X (.BinOp a .Add b pos) (tD S E (e2 addK f g)) := ce_op op_addD (op2_add C.hK) ha hb
end
end G
set_option Elab.async false
set_option linter.all false
set_option maxRecDepth 100000
set_option maxHeartbeats 4000000
namespace G
open PySem PySem.Spec PyProof.Rows L2
section
variable {S : Sta} {B : Tabl} {φ : Fns} {lv : Nat} {X : Cx} {sc : Scope} {N : List Str} {E : XK} {pos : Pos}

/-! ### rows of expressions -/
def RA (S : Sta) (w : Wd) (H : Hp) (Q : List V → Hp → Prop) (E : XK) : Out → Prop
  | .ok (.tup ds) c => ∀ w' H' vs, Tr w H w' H' → Rep S w' H' c → DVs S w' ds vs → Q vs H'
  | .ok _ _ => False
  | .exc k d c => ∀ w' H' cls dx, Tr w H w' H' → Rep S w' H' c → EXR S k d w' H' cls dx → E cls dx H'
theorem RA.tr {w w1 : Wd} {H H1 : Hp} {Q : List V → Hp → Prop} {o : Out} (h : RA S w H Q E o) (t : Tr w H w1 H1) : RA S w1 H1 Q E o := by
  cases o with
  | ok d c =>
    cases d with
    | tup ds => exact fun w' H' vs t' R q => h w' H' vs (t.trans t') R q
    | _ => exact h
  | exc k d c => exact fun w' H' cls dx t' R q => h w' H' cls dx (t.trans t') R q
def tA (S : Sta) (E : XK) (f : SE) : TA := fun σ H Q => ∃ w env c o, Rep S w H c ∧ EnvR S w env σ ∧ f env c = some o ∧ RA S w H Q E o
def nilA : SE := fun _ c => some (.ok (.tup []) c)
def consK (d : D) : D → Cells → Option Out
  | .tup ds, c => some (.ok (.tup (d :: ds)) c)
  | _, _ => none
def consA (f g : SE) : SE := fun env c => bindO (f env c) fun d c1 => bindO (g env c1) (consK d)
theorem ca_nil : PA X [] (tA S E nilA) := pa_nil.imp fun σ H Q ⟨w, env, c, o, R, e, hf, hr⟩ => by
  cases hf
  exact hr w H [] (Tr.refl w H) R DVs.nil
theorem tA_cons {f g : SE} {σ : L2.St} {H : Hp} {Q : List V → Hp → Prop} (h : tA S E (consA f g) σ H Q) : tCons (tD S E f) (tA S E g) σ H Q := by
  obtain ⟨w, env, c, o, R, er, hf, hr⟩ := h
  unfold consA at hf
  show tD S E f σ H (fun x H1 => tA S E g σ H1 (fun xs H2 => Q (x :: xs) H2))
  cases hm : f env c with
  | none => rw [hm] at hf; cases hf
  | some m =>
    rw [hm] at hf
    cases m with
    | exc kk d2 c2 =>
      have hf' : some (Out.exc kk d2 c2) = some o := hf
      cases hf'
      exact ⟨w, env, c, _, R, er, hm, hr⟩
    | ok d c1 =>
      refine ⟨w, env, c, _, R, er, hm, fun w1 H1 x t1 R1 q1 => ?_⟩
      have hf : bindO (g env c1) (consK d) = some o := hf
      cases hm2 : g env c1 with
      | none => rw [hm2] at hf; cases hf
      | some m2 =>
        rw [hm2] at hf
        cases m2 with
        | exc kk d2 c2 =>
          have hf' : some (Out.exc kk d2 c2) = some o := hf
          cases hf'
          exact ⟨w1, env, c1, _, R1, er.tr t1, hm2, fun w' H' cls dx t' R' q' => hr w' H' cls dx (t1.trans t') R' q'⟩
        | ok d2 c2 =>
          have hf : consK d d2 c2 = some o := hf
          cases d2 <;> first | cases hf | skip
          exact ⟨w1, env, c1, _, R1, er.tr t1, hm2, fun w2 H2 xs t2 R2 q2 => hr w2 H2 (x :: xs) (t1.trans t2) R2 (DVs.cons (q1.tr t2) q2)⟩
theorem ca_cons {e : Expr} {es : List Expr} {f g : SE} (ha : PE X e (tD S E f)) (hr : PA X es (tA S E g)) (hs : starEach (e :: es) X.env = (false, eval e X.env) :: starEach es X.env := by rfl) : PA X (e :: es) (tA S E (consA f g)) :=
  (pa_cons ha hr hs).imp fun σ H Q h => tA_cons h
/-- a row, then what is made of it -/
theorem tA_bind {f : SE} {k : Ev → D → Cells → Option Out} {σ : L2.St} {H : Hp} {Q : VK} {Q' : List V → Hp → Prop} (h : tD S E (fun env c => bindO (f env c) (k env)) σ H Q) (ht : ∀ {env d c o}, k env d c = some o → ∃ ds, d = .tup ds)
    (q : ∀ w env ds c vs H1 o, Rep S w H1 c → EnvR S w env σ → DVs S w ds vs → k env (.tup ds) c = some o → RE S w H1 Q E o → Q' vs H1) : tA S E f σ H Q' := by
  obtain ⟨w, env, c, o, R, e, hf, hr⟩ := h
  have hf : bindO (f env c) (k env) = some o := hf
  cases hm : f env c with
  | none => rw [hm] at hf; cases hf
  | some m =>
    rw [hm] at hf
    cases m with
    | ok d c1 =>
      have hf : k env d c1 = some o := hf
      obtain ⟨ds, rfl⟩ := ht hf
      exact ⟨w, env, c, _, R, e, hm, fun w1 H1 vs t R1 q1 => q w1 env ds c1 vs H1 o R1 (e.tr t) q1 hf (hr.tr t)⟩
    | exc kk d c1 =>
      have hf' : some (Out.exc kk d c1) = some o := hf
      cases hf'
      exact ⟨w, env, c, _, R, e, hm, hr⟩
def tupK : D → Cells → Option Out
  | .tup ds, c => if sz ds.length then okd (.tup ds) c else none
  | _, _ => none
def lstK : D → Cells → Option Out
  | .tup ds, c => if sz ds.length then okd (.lst ds) c else none
  | _, _ => none
/-- a list that will change -/
def newK : D → Cells → Option Out
  | .tup ds, c => if sz ds.length then some (.ok (.cell c.length) (c ++ [ds])) else none
  | _, _ => none
theorem tupK_tup : ∀ {d : D} {c : Cells} {o : Out}, tupK d c = some o → ∃ ds, d = .tup ds := fun {d c o} h => by
  cases d <;> first | exact ⟨_, rfl⟩ | cases h
theorem lstK_tup : ∀ {d : D} {c : Cells} {o : Out}, lstK d c = some o → ∃ ds, d = .tup ds := fun {d c o} h => by
  cases d <;> first | exact ⟨_, rfl⟩ | cases h
theorem newK_tup : ∀ {d : D} {c : Cells} {o : Out}, newK d c = some o → ∃ ds, d = .tup ds := fun {d c o} h => by
  cases d <;> first | exact ⟨_, rfl⟩ | cases h
theorem ce_tup {es : List Expr} {x1 : Nat} {f : SE} (h : PA X es (tA S E f)) : PE X (.Tuple es x1 pos) (tD S E (e1 tupK f)) := by
  refine (pe_tup h).imp fun σ H Q q => ?_
  refine tA_bind (k := fun _ => tupK) q tupK_tup fun w env ds c vs H1 o R er dv k re => ?_
  simp only [tupK] at k
  split at k
  · rename_i hz
    cases k
    exact ⟨by rw [← dv.length]; exact sz_ok hz, fun p hp => re_tup R dv hp re⟩
  · cases k
theorem ce_lst {es : List Expr} {f : SE} (h : PA X es (tA S E f)) : PE X (.List es pos) (tD S E (e1 lstK f)) := by
  refine (pe_lst h).imp fun σ H Q q => ?_
  refine tA_bind (k := fun _ => lstK) q lstK_tup fun w env ds c vs H1 o R er dv k re => ?_
  simp only [lstK] at k
  split at k
  · rename_i hz
    cases k
    exact ⟨by rw [← dv.length]; exact sz_ok hz, fun p hp => re_lst R dv hp re⟩
  · cases k
/-- a new list that will change: its address comes to the list of those -/
theorem re_new {w : Wd} {H : Hp} {c : Cells} {Q : VK} {xs : List D} {vs : List V} {p : Addr} (R : Rep S w H c) (hv : DVs S w xs vs) (hp : H p = none) (h : RE S w H Q E (.ok (.cell c.length) (c ++ [xs]))) : Q (.ref p) (upd H p (.lst vs)) := by
  have hw := R.ph_none hp
  have hc := R.cs_ne hp
  have t : Tr w H ⟨w.PH, w.cs ++ [p]⟩ (upd H p (.lst vs)) := {
    ph := fun _ _ q => q
    nw := fun _ _ q => .inl q
    cs := ⟨[p], rfl⟩
    csn := fun a q => by
      rcases List.mem_append.mp q with q | q
      · exact .inl q
      · rw [List.mem_singleton.mp q]; exact .inr hp
    keep := fun a u q _ _ => by rw [upd_ne (ne_of_none q hp)]; exact q
    there := fun a q => by
      by_cases e : a = p
      · subst e; exact absurd hp q
      · rw [upd_ne e]; exact q }
  refine h _ _ _ t ⟨fun a o q => ?_, ?_, ?_, fun n a l h1 h2 => ?_, tabs_upd R.tab hp, R.tabP⟩ ?_
  · rw [upd_ne (ne_of_none (R.per a o q) hp)]; exact R.per a o q
  · simp [R.len]
  · exact List.nodup_append.mpr ⟨R.nd, by simp, fun a ha b hb => by
      rw [List.mem_singleton.mp hb]
      rintro rfl
      exact hc ha⟩
  · have h1 : (w.cs ++ [p])[n]? = some a := h1
    by_cases hn : n < c.length
    · rw [List.getElem?_append_left (by rw [R.len]; exact hn)] at h1
      rw [List.getElem?_append_left hn] at h2
      obtain ⟨q1, us, q2, q3⟩ := R.cell n a l h1 h2
      exact ⟨q1, us, by rw [upd_ne (ne_of_none q2 hp)]; exact q2, q3.tr t⟩
    · have hn' : n = c.length := by
        have := (List.getElem?_eq_some_iff.mp h2).1
        simp at this
        omega
      subst hn'
      rw [List.getElem?_append_right (by rw [R.len]; exact Nat.le_refl _)] at h1
      rw [List.getElem?_append_right (Nat.le_refl _)] at h2
      simp [R.len] at h1 h2
      subst h1 h2
      exact ⟨hw, vs, upd_same, hv.tr t⟩
  · simp only [DV]
    exact ⟨p, by rw [List.getElem?_append_right (by rw [R.len]; exact Nat.le_refl _)]; simp [R.len], rfl⟩
theorem ce_new {es : List Expr} {f : SE} (h : PA X es (tA S E f)) : PE X (.List es pos) (tD S E (e1 newK f)) := by
  refine (pe_lst h).imp fun σ H Q q => ?_
  refine tA_bind (k := fun _ => newK) q newK_tup fun w env ds c vs H1 o R er dv k re => ?_
  simp only [newK] at k
  split at k
  · rename_i hz
    cases k
    exact ⟨by rw [← dv.length]; exact sz_ok hz, fun p hp => re_new R dv hp re⟩
  · cases k

/-! ### equality, order, in -/
def okb (b : Bool) (c : Cells) : Option Out := some (.ok (.bl b) c)
def eqK : D → D → Cells → Option Out := fun x y c => if fit 60 (rs c x) && fit 60 (rs c y) then okb (eqD (rs c x) (rs c y)) c else none
def neK : D → D → Cells → Option Out := fun x y c => if fit 60 (rs c x) && fit 60 (rs c y) then okb (!eqD (rs c x) (rs c y)) c else none
theorem op2_eq (hK : X.K = S.K) : Op2 S E (rEqD X.K) eqK := fun w H c d e x y o Q R hx hy ho hre => by
  unfold eqK at ho
  split at ho
  · rename_i hz
    rw [Bool.and_eq_true] at hz
    cases ho
    rw [hK]
    refine ⟨_, _, rs_dp R hx hz.1, rs_dp R hy hz.2, fit_shaped hz.1 (by decide), fit_shaped hz.2 (by decide), ?_⟩
    rw [eqv_toPy 60 60 _ _ hz.1 hz.2]
    exact RE.now R dvBl hre
  · cases ho
theorem op2_ne (hK : X.K = S.K) : Op2 S E (rNeD X.K) neK := fun w H c d e x y o Q R hx hy ho hre => by
  unfold neK at ho
  split at ho
  · rename_i hz
    rw [Bool.and_eq_true] at hz
    cases ho
    rw [hK]
    refine ⟨_, _, rs_dp R hx hz.1, rs_dp R hy hz.2, fit_shaped hz.1 (by decide), fit_shaped hz.2 (by decide), ?_⟩
    rw [eqv_toPy 60 60 _ _ hz.1 hz.2]
    exact RE.now R dvBl hre
  · cases ho
theorem ce_eq (C : Cxt S B φ lv X sc N E) {a b : Expr} {f g : SE} (ha : PE X a (tD S E f)) (hb : PE X b (tD S E g)) : PE X (.Compare a [.Eq] [b] pos) (tD S E (e2 eqK f g)) := ce_cmp (op_eqD C.room.units) (op2_eq C.hK) ha hb (nomark _)
theorem ct_eq (C : Cxt S B φ lv X sc N E) {a b : Expr} {f g : SE} (ha : PE X a (tD S E f)) (hb : PE X b (tD S E g)) : PT X (.Compare a [.Eq] [b] pos) (tT S E (e2 eqK f g)) := ct_cmp (op_eqD C.room.units) (op2_eq C.hK) ha hb (nomark _)
theorem ce_ne (C : Cxt S B φ lv X sc N E) {a b : Expr} {f g : SE} (ha : PE X a (tD S E f)) (hb : PE X b (tD S E g)) : PE X (.Compare a [.NotEq] [b] pos) (tD S E (e2 neK f g)) := ce_cmp (op_neD C.room.units) (op2_ne C.hK) ha hb (nomark _)
theorem ct_ne (C : Cxt S B φ lv X sc N E) {a b : Expr} {f g : SE} (ha : PE X a (tD S E f)) (hb : PE X b (tD S E g)) : PT X (.Compare a [.NotEq] [b] pos) (tT S E (e2 neK f g)) := ct_cmp (op_neD C.room.units) (op2_ne C.hK) ha hb (nomark _)
/-- numbers alone -/
def ordK (p : Int → Int → Bool) : D → D → Cells → Option Out
  | .int i, .int j, c => okb (p i j) c
  | _, _, _ => none
theorem op2_ord (p : Int → Int → Bool) : Op2 S E (rI0 fun i j => .bl (p i j)) (ordK p) := fun w H c d e x y o Q R hx hy ho hre => by
  cases d <;> first | cases ho | skip
  cases e <;> first | cases ho | skip
  exact ⟨_, _, dv_int hx, dv_int hy, RE.now R dvBl hre⟩
/-- numbers of a tuple -/
def intsD : List D → Option (List Int)
  | [] => some []
  | .int i :: r => (intsD r).map (i :: ·)
  | _ => none
theorem intsD_ok {w : Wd} : ∀ {xs : List D} {ns : List Int} {vs : List V}, intsD xs = some ns → DVs S w xs vs → vs = ns.map V.int
  | [], ns, vs, h, q => by
    simp only [intsD] at h
    simp only [DVs] at q
    cases h
    exact q
  | d :: r, ns, vs, h, q => by
    cases d with
    | int i =>
      simp only [intsD] at h
      simp only [DVs] at q
      obtain ⟨v, us, rfl, q1, q2⟩ := q
      cases hr : intsD r with
      | none => rw [hr] at h; cases h
      | some ms =>
        rw [hr] at h
        cases h
        rw [dv_int q1, intsD_ok hr q2] <;> rfl
    | _ => simp only [intsD] at h; cases h
def ltK : D → D → Cells → Option Out
  | .int i, .int j, c => okb (decide (i < j)) c
  | .str x, .str y, c => okb (decide (x.cps.toList < y.cps.toList)) c
  | .tup xs, .tup ys, c => match intsD xs, intsD ys with
    | some ns, some ms => okb (HT.lexLt ns ms) c
    | _, _ => none
  | _, _, _ => none
def rLtD (K : PySem.W.Frag) : R2 := fun x y H Q => (rI0 fun i j => .bl (decide (i < j))) x y H Q ∨ (∃ i j, x = .str i ∧ y = .str j ∧ Q (.bl (decide (i.cps.toList < j.cps.toList))) H) ∨ rLtT K x y H Q
theorem op_ltD (hu : X.A.units < cLine) : OpR X (compareOp .Lt) (rLtD X.K) := op_lt.or (op_lt_str.or (op_ltT hu))
theorem op2_lt (hK : X.K = S.K) : Op2 S E (rLtD X.K) ltK := fun w H c d e x y o Q R hx hy ho hre => by
  unfold ltK at ho
  split at ho
  · cases ho
    exact .inl ⟨_, _, dv_int hx, dv_int hy, RE.now R dvBl hre⟩
  · cases ho
    exact .inr (.inl ⟨_, _, dv_str hx, dv_str hy, RE.now R dvBl hre⟩)
  · split at ho
    · rename_i ns ms h1 h2
      cases ho
      obtain ⟨a, vs, q1, q2, q3⟩ := dv_tup R hx
      obtain ⟨b, us, q4, q5, q6⟩ := dv_tup R hy
      rw [intsD_ok h1 q3] at q2
      rw [intsD_ok h2 q6] at q5
      rw [hK]
      exact .inr (.inr ⟨a, b, ns, ms, q1, q4, q2, q5, RE.now R dvBl hre⟩)
    · cases ho
  · cases ho
theorem ce_lt (C : Cxt S B φ lv X sc N E) {a b : Expr} {f g : SE} (ha : PE X a (tD S E f)) (hb : PE X b (tD S E g)) : PE X (.Compare a [.Lt] [b] pos) (tD S E (e2 ltK f g)) := ce_cmp (op_ltD C.room.units0) (op2_lt C.hK) ha hb (nomark _)
theorem ct_lt (C : Cxt S B φ lv X sc N E) {a b : Expr} {f g : SE} (ha : PE X a (tD S E f)) (hb : PE X b (tD S E g)) : PT X (.Compare a [.Lt] [b] pos) (tT S E (e2 ltK f g)) := ct_cmp (op_ltD C.room.units0) (op2_lt C.hK) ha hb (nomark _)
def rOrdD (p : Int → Int → Bool) (q : Str → Str → Bool) : R2 := fun x y H Q => (rI0 fun i j => .bl (p i j)) x y H Q ∨ ∃ i j, x = .str i ∧ y = .str j ∧ Q (.bl (q i j)) H
def ordD (p : Int → Int → Bool) (q : Str → Str → Bool) : D → D → Cells → Option Out
  | .int i, .int j, c => okb (p i j) c
  | .str i, .str j, c => okb (q i j) c
  | _, _, _ => none
theorem op2_ordD (p : Int → Int → Bool) (q : Str → Str → Bool) : Op2 S E (rOrdD p q) (ordD p q) := fun w H c d e x y o Q R hx hy ho hre => by
  unfold ordD at ho
  split at ho
  · cases ho
    exact .inl ⟨_, _, dv_int hx, dv_int hy, RE.now R dvBl hre⟩
  · cases ho
    exact .inr ⟨_, _, dv_str hx, dv_str hy, RE.now R dvBl hre⟩
  · cases ho
def gtK : D → D → Cells → Option Out := ordD (fun i j => decide (j < i)) (fun i j => decide (j.cps.toList < i.cps.toList))
theorem op_gtD : OpR X (compareOp .Gt) (rOrdD (fun i j => decide (j < i)) (fun i j => decide (j.cps.toList < i.cps.toList))) := op_gt.or op_gt_str
theorem ce_gt {a b : Expr} {f g : SE} (ha : PE X a (tD S E f)) (hb : PE X b (tD S E g)) : PE X (.Compare a [.Gt] [b] pos) (tD S E (e2 gtK f g)) := ce_cmp op_gtD (op2_ordD _ _) ha hb (nomark _)
theorem ct_gt {a b : Expr} {f g : SE} (ha : PE X a (tD S E f)) (hb : PE X b (tD S E g)) : PT X (.Compare a [.Gt] [b] pos) (tT S E (e2 gtK f g)) := ct_cmp op_gtD (op2_ordD _ _) ha hb (nomark _)
/-- lexicographic, at most -/
def lexLe (ns ms : List Int) : Bool := Ob.lexAt (fun j => decide (ns.getD j 0 = ms.getD j 0)) (fun j => decide (ns.getD j 0 ≤ ms.getD j 0)) (decide (ns.length ≤ ms.length)) 0 (min ns.length ms.length)
def leK : D → D → Cells → Option Out
  | .int i, .int j, c => okb (decide (i ≤ j)) c
  | .str i, .str j, c => okb (!decide (j.cps.toList < i.cps.toList)) c
  | .tup xs, .tup ys, c => match intsD xs, intsD ys with
    | some ns, some ms => okb (lexLe ns ms) c
    | _, _ => none
  | _, _, _ => none
def rLeD (K : PySem.W.Frag) : R2 := fun x y H Q => (rI0 fun i j => .bl (decide (i ≤ j))) x y H Q ∨ (∃ i j, x = .str i ∧ y = .str j ∧ Q (.bl (!decide (j.cps.toList < i.cps.toList))) H) ∨ rLeT K x y H Q
theorem op_leD (hu : X.A.units < cLine) : OpR X (compareOp .LtE) (rLeD X.K) := op_le.or (op_le_str.or (op_leT hu))
theorem op2_le (hK : X.K = S.K) : Op2 S E (rLeD X.K) leK := fun w H c d e x y o Q R hx hy ho hre => by
  unfold leK at ho
  split at ho
  · cases ho
    exact .inl ⟨_, _, dv_int hx, dv_int hy, RE.now R dvBl hre⟩
  · cases ho
    exact .inr (.inl ⟨_, _, dv_str hx, dv_str hy, RE.now R dvBl hre⟩)
  · split at ho
    · rename_i ns ms h1 h2
      cases ho
      obtain ⟨a, vs, q1, q2, q3⟩ := dv_tup R hx
      obtain ⟨b, us, q4, q5, q6⟩ := dv_tup R hy
      rw [intsD_ok h1 q3] at q2
      rw [intsD_ok h2 q6] at q5
      rw [hK]
      exact .inr (.inr ⟨a, b, ns, ms, q1, q4, q2, q5, RE.now R dvBl hre⟩)
    · cases ho
  · cases ho
theorem ce_le (C : Cxt S B φ lv X sc N E) {a b : Expr} {f g : SE} (ha : PE X a (tD S E f)) (hb : PE X b (tD S E g)) : PE X (.Compare a [.LtE] [b] pos) (tD S E (e2 leK f g)) := ce_cmp (op_leD C.room.units0) (op2_le C.hK) ha hb (nomark _)
theorem ct_le (C : Cxt S B φ lv X sc N E) {a b : Expr} {f g : SE} (ha : PE X a (tD S E f)) (hb : PE X b (tD S E g)) : PT X (.Compare a [.LtE] [b] pos) (tT S E (e2 leK f g)) := ct_cmp (op_leD C.room.units0) (op2_le C.hK) ha hb (nomark _)
def geK : D → D → Cells → Option Out := ordD (fun i j => decide (j ≤ i)) (fun i j => !decide (i.cps.toList < j.cps.toList))
theorem op_geD : OpR X (compareOp .GtE) (rOrdD (fun i j => decide (j ≤ i)) (fun i j => !decide (i.cps.toList < j.cps.toList))) := op_ge.or op_ge_str
theorem ce_ge {a b : Expr} {f g : SE} (ha : PE X a (tD S E f)) (hb : PE X b (tD S E g)) : PE X (.Compare a [.GtE] [b] pos) (tD S E (e2 geK f g)) := ce_cmp op_geD (op2_ordD _ _) ha hb (nomark _)
theorem ct_ge {a b : Expr} {f g : SE} (ha : PE X a (tD S E f)) (hb : PE X b (tD S E g)) : PT X (.Compare a [.GtE] [b] pos) (tT S E (e2 geK f g)) := ct_cmp op_geD (op2_ordD _ _) ha hb (nomark _)

/-! ### is None, is True -/
def isNonD : D → Bool
  | .non => true
  | _ => false
def isnK : D → Cells → Option Out
  | .fn _, _ => none
  | d, c => okb (isNonD d) c
def notnK : D → Cells → Option Out
  | .fn _, _ => none
  | d, c => okb (!isNonD d) c
theorem isNon_v {w : Wd} {d : D} {v : V} (h : DV S w d v) (hf : ∀ k, d ≠ .fn k) : decide (v = .non) = isNonD d := by
  cases d with
  | non => rw [dv_non h] <;> rfl
  | bl b => rw [dv_bl h] <;> rfl
  | int b => rw [dv_int h] <;> rfl
  | str b => rw [dv_str h] <;> rfl
  | fn k => exact absurd rfl (hf k)
  | tup xs => simp only [DV] at h; obtain ⟨a, vs, rfl, _⟩ := h; rfl
  | lst xs => simp only [DV] at h; obtain ⟨a, vs, rfl, _⟩ := h; rfl
  | scr xs => simp only [DV] at h; obtain ⟨a, vs, rfl, _⟩ := h; rfl
  | cell xs => simp only [DV] at h; obtain ⟨a, _, rfl⟩ := h; rfl
theorem isnK_ok {d : D} {c : Cells} {o : Out} (h : isnK d c = some o) : (∀ k, d ≠ .fn k) ∧ o = .ok (.bl (isNonD d)) c := by
  cases d <;> first | (cases h; done) | exact ⟨fun _ z => (nomatch z), (Option.some.inj h).symm⟩
theorem notnK_ok {d : D} {c : Cells} {o : Out} (h : notnK d c = some o) : (∀ k, d ≠ .fn k) ∧ o = .ok (.bl (!isNonD d)) c := by
  cases d <;> first | (cases h; done) | exact ⟨fun _ z => (nomatch z), (Option.some.inj h).symm⟩
theorem tD_isn {f : SE} : ∀ σ H Q, tD S E (e1 isnK f) σ H Q → tIsN (tD S E f) σ H Q := fun σ H Q q => tD_bind (g := fun _ => isnK) q fun w env d c v H1 o R e dv k re => by
  obtain ⟨h1, rfl⟩ := isnK_ok k
  show Q (.bl (decide (v = .non))) H1
  rw [isNon_v dv h1]
  exact RE.now R dvBl re
theorem tD_notn {f : SE} : ∀ σ H Q, tD S E (e1 notnK f) σ H Q → tNotN (tD S E f) σ H Q := fun σ H Q q => tD_bind (g := fun _ => notnK) q fun w env d c v H1 o R e dv k re => by
  obtain ⟨h1, rfl⟩ := notnK_ok k
  show Q (.bl (!decide (v = .non))) H1
  rw [isNon_v dv h1]
  exact RE.now R dvBl re
theorem ce_isn {a : Expr} {f : SE} {j : Nat} {p2 : Pos} (ha : PE X a (tD S E f)) : PE X (.Compare a [.Is] [.Constant .none j p2] pos) (tD S E (e1 isnK f)) := (pe_cmp (pc_isN ha) (by rfl)).imp tD_isn
theorem ce_notn {a : Expr} {f : SE} {j : Nat} {p2 : Pos} (ha : PE X a (tD S E f)) : PE X (.Compare a [.IsNot] [.Constant .none j p2] pos) (tD S E (e1 notnK f)) := (pe_cmp (pc_notN ha) (by rfl)).imp tD_notn
theorem ct_isn {a : Expr} {f : SE} {j : Nat} {p2 : Pos} (ha : PE X a (tD S E f)) : PT X (.Compare a [.Is] [.Constant .none j p2] pos) (tT S E (e1 isnK f)) := (pt_cmp (pc_isN ha) (by rfl)).imp fun σ H Q q => tD_isn σ H _ q
theorem ct_notn {a : Expr} {f : SE} {j : Nat} {p2 : Pos} (ha : PE X a (tD S E f)) : PT X (.Compare a [.IsNot] [.Constant .none j p2] pos) (tT S E (e1 notnK f)) := (pt_cmp (pc_notN ha) (by rfl)).imp fun σ H Q q => tD_notn σ H _ q
def isbK : D → D → Cells → Option Out
  | .bl a, .bl b, c => okb (decide (a = b)) c
  | _, _, _ => none
def notbK : D → D → Cells → Option Out
  | .bl a, .bl b, c => okb (!decide (a = b)) c
  | _, _, _ => none
theorem op2_isb : Op2 S E rIsB isbK := fun w H c d e x y o Q R hx hy ho hre => by
  cases d <;> first | cases ho | skip
  cases e <;> first | cases ho | skip
  exact ⟨_, _, dv_bl hx, dv_bl hy, RE.now R dvBl hre⟩
theorem op2_notb : Op2 S E rNotB notbK := fun w H c d e x y o Q R hx hy ho hre => by
  cases d <;> first | cases ho | skip
  cases e <;> first | cases ho | skip
  exact ⟨_, _, dv_bl hx, dv_bl hy, RE.now R dvBl hre⟩
theorem ce_isb {a b : Expr} {f g : SE} (ha : PE X a (tD S E f)) (hb : PE X b (tD S E g)) : PE X (.Compare a [.Is] [b] pos) (tD S E (e2 isbK f g)) := ce_cmp op_isBl op2_isb ha hb (nomark _)
theorem ct_isb {a b : Expr} {f g : SE} (ha : PE X a (tD S E f)) (hb : PE X b (tD S E g)) : PT X (.Compare a [.Is] [b] pos) (tT S E (e2 isbK f g)) := ct_cmp op_isBl op2_isb ha hb (nomark _)
theorem ce_notb {a b : Expr} {f g : SE} (ha : PE X a (tD S E f)) (hb : PE X b (tD S E g)) : PE X (.Compare a [.IsNot] [b] pos) (tD S E (e2 notbK f g)) := ce_cmp op_notBl op2_notb ha hb (nomark _)
theorem ct_notb {a b : Expr} {f g : SE} (ha : PE X a (tD S E f)) (hb : PE X b (tD S E g)) : PT X (.Compare a [.IsNot] [b] pos) (tT S E (e2 notbK f g)) := ct_cmp op_notBl op2_notb ha hb (nomark _)
end
end G
set_option Elab.async false
set_option linter.all false
set_option maxRecDepth 100000
set_option maxHeartbeats 4000000
namespace G
open PySem PySem.Spec PyProof.Rows L2
section
variable {S : Sta} {B : Tabl} {φ : Fns} {lv : Nat} {X : Cx} {sc : Scope} {N : List Str} {E : XK} {pos : Pos}

/-! ### x in y -/
/-- among data, by what it equals -/
def rInD (K : PySem.W.Frag) (neg : Bool) : R2 := fun x y H Q => ∃ p ys d ds, y = .ref p ∧ (SqL K H p ys ∨ SqT K H p ys) ∧ Dp K H x d ∧ DpAll K H ys ds ∧ SeqAt.shaped d = true ∧ (∀ e ∈ ds, SeqAt.shaped e = true) ∧
  Q (.bl (if neg then !(ds.any fun e => PyData.eqv e d) else ds.any fun e => PyData.eqv e d)) H
/-- the answer for one item -/
noncomputable def eqAns (h : Heap) (d : PyData) (u : Value) : Bool := @decide (∃ as e, Reads h u e as ∧ e.canLay0 = true ∧ PyData.eqv e d = true) (Classical.propDecidable _)
theorem eqAns_of {h : Heap} {d e : PyData} {u : Value} {as : List Addr} (r : Reads h u e as) (hl : e.canLay0 = true) : eqAns h d u = PyData.eqv e d := by
  unfold eqAns
  cases hq : PyData.eqv e d with
  | true => exact @decide_eq_true _ (Classical.propDecidable _) ⟨as, e, r, hl, hq⟩
  | false =>
    refine @decide_eq_false _ (Classical.propDecidable _) ?_
    rintro ⟨bs, e', r', hl', h'⟩
    have he := PySem.SeqAt.Reads.unique e e' u as bs hl r r'
    subst he
    rw [hq] at h'
    cases h'
theorem in_items {pins : List (Addr × Obj)} {s : Shared} {σ : L2.St} {H : Hp} {A : Around} {d : PyData} {v : Value} {bs : List Addr} (I : Inv X pins σ H s) (r : Reads s.heap v d bs) (hd : SeqAt.shaped d = true) (hu : A.units + 64 < cLine) :
    ∀ {ys : List V} {ds : List PyData} {us : List Value}, DpAll X.K H ys ds → Vals ys us → (∀ e ∈ ds, SeqAt.shaped e = true) →
      (∀ u ∈ us, SeqAt.EqAt A s u v (eqAns s.heap d u)) ∧ us.any (eqAns s.heap d) = ds.any fun e => PyData.eqv e d
  | _, [], us, h, rv, _ => by
    cases h
    cases rv
    exact ⟨fun u hu => by simp at hu, rfl⟩
  | _, e :: ds, us, h, rv, hs => by
    cases h with
    | cons h1 h2 =>
      cases rv with
      | cons r1 r2 =>
        obtain ⟨as, q⟩ := Dp.reads I e _ _ h1 r1
        obtain ⟨i1, i2⟩ := in_items I r hd hu h2 r2 fun e' he => hs e' (List.mem_cons_of_mem _ he)
        have se := hs e List.mem_cons_self
        have le := SeqAt.canLay_of_shaped se
        have ea := eqAns_of (d := d) q le
        refine ⟨fun u hm => ?_, by rw [List.any_cons, List.any_cons, i2, ea]⟩
        rcases List.mem_cons.mp hm with rfl | hm
        · rw [ea]
          exact SeqAt.eqAt_reads _ _ _ _ _ _ _ _ q r le (SeqAt.canLay_of_shaped hd) (SeqAt.room_of_shaped se hu)
        · exact i1 u hm
theorem op_inD (hu : X.A.units + 65 < cLine) : OpR X (compareOp .In) (rInD X.K false) := by
  intro pins s σ H x y v u Q I rx ry h
  obtain ⟨p, ys, d, ds, rfl, hq, hx, hy, sd, ss, q⟩ := h
  cases ry
  obtain ⟨bs, r⟩ := Dp.reads I d x v hx rx
  rcases hq with hq | hq
  · obtain ⟨its, rv, pl, hz⟩ := I.list hq
    obtain ⟨i1, i2⟩ := in_items (A := X.A.in1) I r sd (by show X.A.units + 1 + 64 < cLine; omega) hy rv ss
    refine SeqAt.in_listAt (eqAns s.heap d) pl.isList (fun w hw => i1 w (by simpa using hw)) ⟨.bl _, H, I, rfl, ?_⟩
    rw [show its.toArray.any (eqAns s.heap d) = its.any (eqAns s.heap d) by simp, i2]
    exact q
  · obtain ⟨its, rv, pl, hz⟩ := I.tuple hq
    obtain ⟨i1, i2⟩ := in_items (A := X.A.in1) I r sd (by show X.A.units + 1 + 64 < cLine; omega) hy rv ss
    refine SeqAt.in_tupleAt (eqAns s.heap d) pl (fun w hw => i1 w (by simpa using hw)) ⟨.bl _, H, I, rfl, ?_⟩
    rw [show its.toArray.any (eqAns s.heap d) = its.any (eqAns s.heap d) by simp, i2]
    exact q
theorem op_ninD (hu : X.A.units + 65 < cLine) : OpR X (compareOp .NotIn) (rInD X.K true) := by
  intro pins s σ H x y v u Q I rx ry h
  obtain ⟨p, ys, d, ds, rfl, hq, hx, hy, sd, ss, q⟩ := h
  cases ry
  obtain ⟨bs, r⟩ := Dp.reads I d x v hx rx
  rcases hq with hq | hq
  · obtain ⟨its, rv, pl, hz⟩ := I.list hq
    obtain ⟨i1, i2⟩ := in_items (A := X.A.in1) I r sd (by show X.A.units + 1 + 64 < cLine; omega) hy rv ss
    refine SeqAt.notIn_listAt (eqAns s.heap d) pl.isList (fun w hw => i1 w (by simpa using hw)) ⟨.bl _, H, I, rfl, ?_⟩
    rw [show its.toArray.any (eqAns s.heap d) = its.any (eqAns s.heap d) by simp, i2]
    exact q
  · obtain ⟨its, rv, pl, hz⟩ := I.tuple hq
    obtain ⟨i1, i2⟩ := in_items (A := X.A.in1) I r sd (by show X.A.units + 1 + 64 < cLine; omega) hy rv ss
    refine SeqAt.notIn_tupleAt (eqAns s.heap d) pl (fun w hw => i1 w (by simpa using hw)) ⟨.bl _, H, I, rfl, ?_⟩
    rw [show its.toArray.any (eqAns s.heap d) = its.any (eqAns s.heap d) by simp, i2]
    exact q
def inAns (x : D) (ys : List D) : Bool := ys.any fun y => eqD y x
/-- one sign in a text; data among data -/
def inK (neg : Bool) : D → D → Cells → Option Out := fun x y c => match x, y with
  | .str a, .str b => match a.cps.toList with
    | [k] => okb (if neg then !decide (k ∈ b.cps.toList) else decide (k ∈ b.cps.toList)) c
    | _ => none
  | _, _ => match sview c y with
    | some ys => if fit 60 (rs c x) && fits 60 ys then okb (if neg then !inAns (rs c x) ys else inAns (rs c x) ys) c else none
    | none => none
theorem any_toPys (n m : Nat) {d : D} (hd : fit n d = true) : ∀ {ys : List D}, fits m ys = true → (toPys ys).any (fun e => PyData.eqv e (toPy d)) = inAns d ys
  | [], _ => rfl
  | y :: ys, h => by
    simp only [fits, Bool.and_eq_true] at h
    simp only [toPys, inAns, List.any_cons]
    rw [eqv_toPy m n y d h.1 hd, any_toPys n m hd h.2] <;> rfl
theorem shaped_toPys {m : Nat} (hm : m ≤ 64) : ∀ {ys : List D}, fits m ys = true → ∀ e ∈ toPys ys, SeqAt.shaped e = true
  | [], _, e, h => by simp [toPys] at h
  | y :: ys, hf, e, h => by
    simp only [fits, Bool.and_eq_true] at hf
    simp only [toPys, List.mem_cons] at h
    rcases h with rfl | h
    · exact fit_shaped hf.1 hm
    · exact shaped_toPys hm hf.2 e h
def rInS (neg : Bool) : R2 := fun x y H Q => ∃ (c : Nat) (z : Str), x = .str ⟨#[c]⟩ ∧ y = .str z ∧ Q (.bl (if neg then !decide (c ∈ z.cps.toList) else decide (c ∈ z.cps.toList))) H
theorem op_inA (hu : X.A.units + 65 < cLine) : OpR X (compareOp .In) (fun x y H Q => rInS false x y H Q ∨ rInD X.K false x y H Q) := (show OpR X _ (rInS false) from op_in_sign).or (op_inD hu)
theorem op_ninA (hu : X.A.units + 65 < cLine) : OpR X (compareOp .NotIn) (fun x y H Q => rInS true x y H Q ∨ rInD X.K true x y H Q) := (show OpR X _ (rInS true) from op_notIn_sign).or (op_ninD hu)
theorem str_one {a : Str} {k : Nat} (h : a.cps.toList = [k]) : a = ⟨#[k]⟩ := by
  obtain ⟨cps⟩ := a
  have : cps = #[k] := by apply Array.ext'; simpa using h
  rw [this]
theorem op2_in (hK : X.K = S.K) (neg : Bool) : Op2 S E (fun x y H Q => rInS neg x y H Q ∨ rInD X.K neg x y H Q) (inK neg) := fun w H c d e x y o Q R hx hy ho hre => by
  have seq : ∀ {ys : List D}, sview c e = some ys → (fit 60 (rs c d) && fits 60 ys) = true → o = .ok (.bl (if neg then !inAns (rs c d) ys else inAns (rs c d) ys)) c → rInD X.K neg x y H Q := fun {ys} hs hz eo => by
    subst eo
    rw [Bool.and_eq_true] at hz
    obtain ⟨p, vs, h1, h2, h3⟩ := sview_ok R hy hs
    rw [hK]
    refine ⟨p, vs, _, _, h1, h2, rs_dp R hx hz.1, fits_dp R.per 60 ys vs hz.2 h3, fit_shaped hz.1 (by decide), shaped_toPys (by decide) hz.2, ?_⟩
    rw [any_toPys 60 60 hz.1 hz.2]
    exact RE.now R dvBl hre
  unfold inK at ho
  split at ho
  · rename_i a b
    split at ho
    · rename_i k hk
      cases ho
      rw [dv_str hx, dv_str hy, str_one hk]
      exact .inl ⟨k, _, rfl, rfl, RE.now R dvBl hre⟩
    · cases ho
  · split at ho
    · rename_i ys hs
      split at ho
      · rename_i hz
        exact .inr (seq hs hz (Option.some.inj ho).symm)
      · cases ho
    · cases ho
theorem ce_in (C : Cxt S B φ lv X sc N E) {a b : Expr} {f g : SE} (ha : PE X a (tD S E f)) (hb : PE X b (tD S E g)) (hm : behindInMarks .In b = false := by rfl) : PE X (.Compare a [.In] [b] pos) (tD S E (e2 (inK false) f g)) :=
  ce_cmp (op_inA (by have := C.room.un; omega)) (op2_in C.hK false) ha hb hm
theorem ct_in (C : Cxt S B φ lv X sc N E) {a b : Expr} {f g : SE} (ha : PE X a (tD S E f)) (hb : PE X b (tD S E g)) (hm : behindInMarks .In b = false := by rfl) : PT X (.Compare a [.In] [b] pos) (tT S E (e2 (inK false) f g)) :=
  ct_cmp (op_inA (by have := C.room.un; omega)) (op2_in C.hK false) ha hb hm
theorem ce_nin (C : Cxt S B φ lv X sc N E) {a b : Expr} {f g : SE} (ha : PE X a (tD S E f)) (hb : PE X b (tD S E g)) (hm : behindInMarks .NotIn b = false := by rfl) : PE X (.Compare a [.NotIn] [b] pos) (tD S E (e2 (inK true) f g)) :=
  ce_cmp (op_ninA (by have := C.room.un; omega)) (op2_in C.hK true) ha hb hm
theorem ct_nin (C : Cxt S B φ lv X sc N E) {a b : Expr} {f g : SE} (ha : PE X a (tD S E f)) (hb : PE X b (tD S E g)) (hm : behindInMarks .NotIn b = false := by rfl) : PT X (.Compare a [.NotIn] [b] pos) (tT S E (e2 (inK true) f g)) :=
  ct_cmp (op_ninA (by have := C.room.un; omega)) (op2_in C.hK true) ha hb hm

/-! ### a[i], a[i:j] -/
def atD (xs : List D) (i : Int) : Option D := (ixN xs.length i).bind fun j => xs[j]?
def ixK : D → D → Cells → Option Out := fun x y c => match x, y with
  | .str z, .int i => if sz z.length then (match atI z.cps.toList i with
    | some k => okd (.str ⟨#[k]⟩) c
    | none => none) else none
  | x, .int i => match sview c x with
    | some xs => (match atI xs i with
      | some d => okd d c
      | none => none)
    | none => none
  | _, _ => none
theorem atI_dv {w : Wd} {xs : List D} {vs : List V} {i : Int} {d : D} (h : DVs S w xs vs) (e : atI xs i = some d) : ∃ v, atI vs i = some v ∧ DV S w d v := by
  unfold atI at e ⊢
  rw [← h.length]
  cases hj : ixN xs.length i with
  | none => rw [hj] at e; cases e
  | some j =>
    rw [hj] at e
    exact h.get e
theorem op2_ix (hK : X.K = S.K) : Op2 S E (rIx X.K) ixK := fun w H c d e x y o Q R hx hy ho hre => by
  have seq : ∀ {xs : List D} {i : Int}, e = .int i → sview c d = some xs → (match atI xs i with
      | some d => okd d c
      | none => none) = some o → rIx X.K x y H Q := fun {xs i} he hs hq => by
    subst he
    obtain ⟨p, vs, h1, h2, h3⟩ := sview_ok R hx hs
    split at hq
    · rename_i d' hd
      cases hq
      obtain ⟨v, q1, q2⟩ := atI_dv h3 hd
      rw [hK]
      rcases h2 with h2 | h2
      · exact .inl ⟨p, vs, i, v, h1, dv_int hy, h2, q1, RE.now R q2 hre⟩
      · exact .inr (.inl ⟨p, vs, i, v, h1, dv_int hy, h2, q1, RE.now R q2 hre⟩)
    · cases hq
  unfold ixK at ho
  split at ho
  · rename_i z i
    split at ho
    · rename_i hz
      split at ho
      · rename_i k hk
        cases ho
        exact .inr (.inr ⟨z, i, k, dv_str hx, dv_int hy, sz_ok hz, hk, RE.now R dvStr hre⟩)
      · cases ho
    · cases ho
  · split at ho
    · rename_i xs hs
      exact seq rfl hs ho
    · cases ho
  · cases ho
theorem ce_ix (C : Cxt S B φ lv X sc N E) {a b : Expr} {f g : SE} (ha : PE X a (tD S E f)) (hb : PE X b (tD S E g)) (hp : PlainIx b := by exact fun _ _ => rfl) : PE X (.Subscript a b pos) (tD S E (e2 ixK f g)) := (pe_ix ix_seq ha hb hp).imp (tD_e2 (op2_ix C.hK))

/-- a part of a slice: left out, or a number -/
def tlo (S : Sta) (E : XK) : Option SE → TO
  | none => tNoPart
  | some f => tPart (tD S E f)
theorem cpo_none : PO X none (tlo S E none) := po_none
theorem cpo_some {e : Expr} {f : SE} (h : PE X e (tD S E f)) : PO X (some e) (tlo S E (some f)) := po_some h
def partB (f : Option SE) (env : Ev) (c : Cells) (k : Option Int → Cells → Option Out) : Option Out := match f with
  | none => k none c
  | some f => bindO (f env c) fun d c1 => match d with
    | .int i => k (some i) c1
    | _ => none
theorem partB_ok {f : Option SE} {k : Option Int → Cells → Option Out} {w : Wd} {H : Hp} {c : Cells} {env : Ev} {σ : L2.St} {o : Out} {Q : VK} {Q' : Option Int → Hp → Prop} (R : Rep S w H c) (er : EnvR S w env σ) (h : partB f env c k = some o) (hr : RE S w H Q E o)
    (q : ∀ w' H' c' l, Tr w H w' H' → Rep S w' H' c' → EnvR S w' env σ → k l c' = some o → RE S w' H' Q E o → Q' l H') : tlo S E f σ H Q' := by
  cases f with
  | none => exact q w H c none (Tr.refl w H) R er h hr
  | some f =>
    show tD S E f σ H _
    have h : bindO (f env c) (fun d c1 => match d with
      | .int i => k (some i) c1
      | _ => none) = some o := h
    cases hm : f env c with
    | none => rw [hm] at h; cases h
    | some m =>
      rw [hm] at h
      cases m with
      | exc kk d2 c2 =>
        have h' : some (Out.exc kk d2 c2) = some o := h
        cases h'
        exact ⟨w, env, c, _, R, er, hm, hr⟩
      | ok d c1 =>
        rw [bindO_ok] at h
        cases d <;> first | (cases h; done) | skip
        exact ⟨w, env, c, _, R, er, hm, fun w1 H1 v t R1 q1 => ⟨_, dv_int q1, q w1 H1 c1 _ t R1 (er.tr t) h (hr.tr t)⟩⟩
def cutD (xs : List D) (lo hi : Option Int) : List D := (xs.drop (HT.sIx xs.length 0 lo)).take (HT.sIx xs.length xs.length hi - HT.sIx xs.length 0 lo)
theorem cut_dv {w : Wd} {xs : List D} {vs : List V} {lo hi : Option Int} (h : DVs S w xs vs) : DVs S w (cutD xs lo hi) (cutV vs lo hi) := by
  unfold cutD cutV
  rw [h.length]
  exact (h.drop _).take _
theorem cut_all {xs : List D} {lo hi : Option Int} (h : HT.sIx xs.length 0 lo = 0 ∧ HT.sIx xs.length xs.length hi = xs.length) : cutD xs lo hi = xs := by
  unfold cutD
  rw [h.1, h.2]
  simp
/-- a list, whether it may change or not -/
def lqview (c : Cells) (d : D) : Option (List D) := match rs c d with
  | .lst xs => some xs
  | .scr xs => some xs
  | _ => none
theorem lqview_ok {w : Wd} {H : Hp} {c : Cells} {d : D} {v : V} {l : List D} (R : Rep S w H c) (h : DV S w d v) (e : lqview c d = some l) : ∃ a vs, v = .ref a ∧ SqL S.K H a vs ∧ DVs S w l vs := by
  unfold lqview at e
  split at e
  · rename_i xs hx
    have e' : xs = l := by simpa using e
    subst e'
    obtain ⟨a, vs, h1, h2, h3⟩ := lview_ok R h (l := xs) (by unfold lview; rw [hx])
    exact ⟨a, vs, h1, SqL.of h2, h3⟩
  · rename_i xs hx
    have e' : xs = l := by simpa using e
    subst e'
    have hd := rs_keep hx (fun _ z => nomatch z) (fun _ z => nomatch z)
    subst hd
    simp only [DV] at h
    obtain ⟨a, vs, h1, h2, h3⟩ := h
    exact ⟨a, vs, h1, sql_mono R.per h2, h3⟩
  · cases e
def slK (x : D) (l h : Option Int) (c : Cells) : Option Out := match x with
  | .str z => if sz z.length then okd (.str (cutS z l h)) c else none
  | .tup xs => okd (.tup (cutD xs l h)) c
  | x => match lqview c x with
    | some xs => okd (.lst (cutD xs l h)) c
    | none => none
def slE (f : SE) (lo hi : Option SE) : SE := fun env c => bindO (f env c) fun x c1 => partB lo env c1 fun l c2 => partB hi env c2 fun h c3 => slK x l h c3
def rSlD (K : PySem.W.Frag) : V → Option Int → Option Int → Hp → VK → Prop := fun x lo hi H Q => rSlA K x lo hi H Q ∨ rSlL K x lo hi H Q ∨ rSlS x lo hi H Q
theorem sl_D : SlR X (rSlD X.K) := sl_tupA.or (sl_list.or sl_str)
theorem slK_ok (hK : X.K = S.K) {w : Wd} {H : Hp} {c : Cells} {d : D} {x : V} {l h : Option Int} {o : Out} {Q : VK} (R : Rep S w H c) (hx : DV S w d x) (ho : slK d l h c = some o) (hre : RE S w H Q E o) : rSlD X.K x l h H Q := by
  rw [hK]
  unfold slK at ho
  split at ho
  · split at ho
    · rename_i hz
      cases ho
      exact .inr (.inr ⟨_, dv_str hx, sz_ok hz, RE.now R dvStr hre⟩)
    · cases ho
  · rename_i xs
    cases ho
    obtain ⟨a, vs, h1, h2, h3⟩ := dv_tup R hx
    have hl := h3.length
    refine .inl ⟨a, vs, h1, h2, fun z => ?_, fun z p hp => re_tup R (cut_dv h3) hp hre⟩
    rw [← hl] at z
    rw [cut_all z] at hre
    rw [← h1]
    exact RE.now R hx hre
  · split at ho
    · rename_i xs hs
      cases ho
      obtain ⟨a, vs, h1, h2, h3⟩ := lqview_ok R hx hs
      exact .inr (.inl ⟨a, vs, h1, h2, fun p hp => re_lst R (cut_dv h3) hp hre⟩)
    · cases ho
theorem ce_slice (C : Cxt S B φ lv X sc N E) {a : Expr} {lo hi : Option Expr} {f : SE} {lf hf : Option SE} {p2 : Pos} (ha : PE X a (tD S E f)) (hl : PO X lo (tlo S E lf)) (hu : PO X hi (tlo S E hf)) : PE X (.Subscript a (.Slice lo hi none p2) pos) (tD S E (slE f lf hf)) := by
  refine (pe_slice sl_D ha hl hu).imp fun σ H Q q => ?_
  refine tD_bind (g := fun env x c1 => partB lf env c1 fun l c2 => partB hf env c2 fun h c3 => slK x l h c3) q fun w env d c v H1 o R e dv k re => ?_
  refine partB_ok R e k re fun w2 H2 c2 l t2 R2 e2 k2 re2 => ?_
  refine partB_ok R2 e2 k2 re2 fun w3 H3 c3 h t3 R3 e3 k3 re3 => ?_
  exact slK_ok C.hK R3 ((dv.tr t2).tr t3) k3 re3

/-! ### built-ins called -/
def bK (k : List D → Cells → Option Out) : D → Cells → Option Out
  | .tup ds, c => k ds c
  | _, _ => none
def bE (k : List D → Cells → Option Out) (f : SE) : SE := fun env c => bindO (f env c) (bK k)
theorem bK_tup {k : List D → Cells → Option Out} : ∀ {d : D} {c : Cells} {o : Out}, bK k d c = some o → ∃ ds, d = .tup ds := fun {d c o} h => by
  cases d <;> first | exact ⟨_, rfl⟩ | cases h
def OpN (S : Sta) (E : XK) (r : List V → Hp → VK → Prop) (k : List D → Cells → Option Out) : Prop := ∀ w H c ds vs o (Q : VK), Rep S w H c → DVs S w ds vs → k ds c = some o → RE S w H Q E o → r vs H Q
theorem tA_b {r : List V → Hp → VK → Prop} {k : List D → Cells → Option Out} {f : SE} (h : OpN S E r k) : ∀ σ H Q, tD S E (bE k f) σ H Q → tCB r (tA S E f) σ H Q := fun σ H Q q =>
  tA_bind (k := fun _ => bK k) q bK_tup fun w env ds c vs H1 o R er dv kk re => h w H1 c ds vs o Q R dv kk re
theorem ce_b {id : String} {x : Str} {r : List V → Hp → VK → Prop} {k : List D → Cells → Option Out} {f : SE} {e : Expr} {es : List Expr} {p : Pos} (C : Cxt S B φ lv X sc N E) (hc : CallR X (.builtin id) r) (h : OpN S E r k) (hm : X.mg x = none) (hv : bootBuiltins x = some (.builtin id)) (ha : PA X (e :: es) (tA S E f))
    (hg : glB sc x = true := by decide +kernel) (hn : x ≠ "__name__" := by decide +kernel) (hdb : (x == ("__debug__" : Str)) = false := by decide +kernel)
    (he : starEach (e :: es) X.env = (false, eval e X.env) :: starEach es X.env := by rfl) (hpl : (backTo pos (starEach es X.env)).any (·.1) = false := by rfl) : PE X (.Call (.Name x p) (e :: es) [] pos) (tD S E (bE k f)) :=
  (pe_callB hc (gl_of (by rw [C.hs]; exact hg)) hm hv ha hn hdb he hpl).imp (tA_b h)
theorem ce_bt {T : String} {x : Str} {r : List V → Hp → VK → Prop} {k : List D → Cells → Option Out} {f : SE} {e : Expr} {es : List Expr} {p : Pos} (C : Cxt S B φ lv X sc N E) (hc : CallR X (.type T) r) (h : OpN S E r k) (hm : X.mg x = none) (hv : bootBuiltins x = some (.type T)) (ha : PA X (e :: es) (tA S E f))
    (hg : glB sc x = true := by decide +kernel) (hn : x ≠ "__name__" := by decide +kernel) (hdb : (x == ("__debug__" : Str)) = false := by decide +kernel)
    (he : starEach (e :: es) X.env = (false, eval e X.env) :: starEach es X.env := by rfl) (hpl : (backTo pos (starEach es X.env)).any (·.1) = false := by rfl) : PE X (.Call (.Name x p) (e :: es) [] pos) (tD S E (bE k f)) :=
  (pe_callTy hc (gl_of (by rw [C.hs]; exact hg)) hm hv ha hn hdb he hpl).imp (tA_b h)
end
end G
set_option Elab.async false
set_option linter.all false
set_option maxRecDepth 100000
set_option maxHeartbeats 4000000
namespace G
open PySem PySem.Spec PyProof.Rows L2
section
variable {S : Sta} {B : Tabl} {φ : Fns} {lv : Nat} {X : Cx} {sc : Scope} {N : List Str} {E : XK} {pos : Pos}
theorem dvs1 {w : Wd} {d : D} {vs : List V} (h : DVs S w [d] vs) : ∃ v, vs = [v] ∧ DV S w d v := by
  simp only [DVs] at h
  obtain ⟨v, r, rfl, q, rfl⟩ := h
  exact ⟨v, rfl, q⟩
theorem dvs2 {w : Wd} {d e : D} {vs : List V} (h : DVs S w [d, e] vs) : ∃ v u, vs = [v, u] ∧ DV S w d v ∧ DV S w e u := by
  simp only [DVs] at h
  obtain ⟨v, r, rfl, q, v2, r2, rfl, q2, rfl⟩ := h
  exact ⟨v, v2, rfl, q, q2⟩

/-! ### len -/
def lenK : List D → Cells → Option Out
  | [.str z], c => if sz z.length then okd (.int z.length) c else none
  | [d], c => match sview c d with
    | some xs => okd (.int xs.length) c
    | none => none
  | _, _ => none
theorem opN_len (hK : X.K = S.K) : OpN S E (fun xs H Q => ∃ x n, xs = [x] ∧ LenV X.K x H n ∧ Q (.int n) H) lenK := fun w H c ds vs o Q R hv ho hre => by
  rw [hK]
  unfold lenK at ho
  split at ho
  · split at ho
    · rename_i hz
      cases ho
      obtain ⟨v, rfl, q⟩ := dvs1 hv
      rw [dv_str q]
      exact ⟨_, _, rfl, ⟨sz_ok hz, rfl⟩, RE.now R dvInt hre⟩
    · cases ho
  · split at ho
    · rename_i xs hs
      cases ho
      obtain ⟨v, rfl, q⟩ := dvs1 hv
      obtain ⟨a, us, h1, h2, h3⟩ := sview_ok R q hs
      subst h1
      refine ⟨_, xs.length, rfl, ?_, RE.now R dvInt hre⟩
      rw [h3.length]
      exact h2.elim (fun z => .inl ⟨us, z, rfl⟩) (fun z => .inr ⟨us, z, rfl⟩)
    · cases ho
  · cases ho
theorem ce_len (C : Cxt S B φ lv X sc N E) {a : Expr} {f : SE} {p : Pos} (ha : PE X a (tD S E f)) (hg : glB sc "len" = true := by decide +kernel) (hs : starEach [a] X.env = [(false, eval a X.env)] := by rfl) :
    PE X (.Call (.Name "len" p) [a] [] pos) (tD S E (bE lenK (consA f nilA))) := ce_b C call_len (opN_len C.hK) C.blt.len PySem.boot_len (ca_cons ha ca_nil hs) hg (he := hs)

/-! ### all, any -/
def bools : List D → Option (List Bool)
  | [] => some []
  | .bl b :: r => (bools r).map (b :: ·)
  | _ => none
theorem bools_ok {w : Wd} : ∀ {xs : List D} {bs : List Bool} {vs : List V}, bools xs = some bs → DVs S w xs vs → vs = bs.map V.bl
  | [], ns, vs, h, q => by
    simp only [bools] at h
    simp only [DVs] at q
    cases h
    exact q
  | d :: r, ns, vs, h, q => by
    cases d with
    | bl i =>
      simp only [bools] at h
      simp only [DVs] at q
      obtain ⟨v, us, rfl, q1, q2⟩ := q
      cases hr : bools r with
      | none => rw [hr] at h; cases h
      | some ms =>
        rw [hr] at h
        cases h
        rw [dv_bl q1, bools_ok hr q2] <;> rfl
    | _ => simp only [bools] at h; cases h
def allK : List D → Cells → Option Out
  | [d], c => match lqview c d with
    | some xs => (match bools xs with
      | some bs => okb (bs.all id) c
      | none => none)
    | none => none
  | _, _ => none
def anyK : List D → Cells → Option Out
  | [d], c => match lqview c d with
    | some xs => (match bools xs with
      | some bs => okb (bs.any id) c
      | none => none)
    | none => none
  | _, _ => none
theorem opN_all (hK : X.K = S.K) : OpN S E (rAll X.K) allK := fun w H c ds vs o Q R hv ho hre => by
  rw [hK]
  unfold allK at ho
  split at ho
  · split at ho
    · rename_i xs hs
      split at ho
      · rename_i bs hb
        cases ho
        obtain ⟨v, rfl, q⟩ := dvs1 hv
        obtain ⟨a, us, h1, h2, h3⟩ := lqview_ok R q hs
        rw [bools_ok hb h3] at h2
        exact ⟨a, bs, by rw [h1], h2, RE.now R dvBl hre⟩
      · cases ho
    · cases ho
  · cases ho
theorem opN_any (hK : X.K = S.K) : OpN S E (rAny X.K) anyK := fun w H c ds vs o Q R hv ho hre => by
  rw [hK]
  unfold anyK at ho
  split at ho
  · split at ho
    · rename_i xs hs
      split at ho
      · rename_i bs hb
        cases ho
        obtain ⟨v, rfl, q⟩ := dvs1 hv
        obtain ⟨a, us, h1, h2, h3⟩ := lqview_ok R q hs
        rw [bools_ok hb h3] at h2
        exact ⟨a, bs, by rw [h1], h2, RE.now R dvBl hre⟩
      · cases ho
    · cases ho
  · cases ho
theorem ce_all (C : Cxt S B φ lv X sc N E) {a : Expr} {f : SE} {p : Pos} (ha : PE X a (tD S E f)) (hg : glB sc "all" = true := by decide +kernel) (hs : starEach [a] X.env = [(false, eval a X.env)] := by rfl) :
    PE X (.Call (.Name "all" p) [a] [] pos) (tD S E (bE allK (consA f nilA))) := ce_b C (cr_all C.calm) (opN_all C.hK) C.blt.all (by decide +kernel) (ca_cons ha ca_nil hs) hg (he := hs)
theorem ce_any (C : Cxt S B φ lv X sc N E) {a : Expr} {f : SE} {p : Pos} (ha : PE X a (tD S E f)) (hg : glB sc "any" = true := by decide +kernel) (hs : starEach [a] X.env = [(false, eval a X.env)] := by rfl) :
    PE X (.Call (.Name "any" p) [a] [] pos) (tD S E (bE anyK (consA f nilA))) := ce_b C (cr_any C.calm) (opN_any C.hK) C.blt.any (by decide +kernel) (ca_cons ha ca_nil hs) hg (he := hs)

/-! ### tuple, list -/
def tupleK : List D → Cells → Option Out
  | [.tup xs], c => okd (.tup xs) c
  | [d], c => match lqview c d with
    | some xs => okd (.tup xs) c
    | none => none
  | _, _ => none
def listK : List D → Cells → Option Out
  | [d], c => match sview c d with
    | some xs => okd (.lst xs) c
    | none => none
  | _, _ => none
/-- a list made of another thing, that will change -/
def listNK : List D → Cells → Option Out
  | [d], c => match sview c d with
    | some xs => some (.ok (.cell c.length) (c ++ [xs]))
    | none => none
  | _, _ => none
theorem opN_tuple (hK : X.K = S.K) : OpN S E (fun xs H Q => ∃ p ys, xs = [.ref p] ∧ ((SqL X.K H p ys ∧ ∀ l, H l = none → Q (.ref l) (upd H l (.tup ys))) ∨ (SqT X.K H p ys ∧ Q (.ref p) H))) tupleK := fun w H c ds vs o Q R hv ho hre => by
  rw [hK]
  unfold tupleK at ho
  split at ho
  · cases ho
    obtain ⟨v, rfl, q⟩ := dvs1 hv
    obtain ⟨a, us, h1, h2, h3⟩ := dv_tup R q
    subst h1
    exact ⟨a, us, rfl, .inr ⟨h2, RE.now R q hre⟩⟩
  · split at ho
    · rename_i xs hs
      cases ho
      obtain ⟨v, rfl, q⟩ := dvs1 hv
      obtain ⟨a, us, h1, h2, h3⟩ := lqview_ok R q hs
      subst h1
      exact ⟨a, us, rfl, .inl ⟨h2, fun l hl => re_tup R h3 hl hre⟩⟩
    · cases ho
  · cases ho
theorem opN_list (hK : X.K = S.K) : OpN S E (fun xs H Q => ∃ p ys, xs = [.ref p] ∧ (SqL X.K H p ys ∨ SqT X.K H p ys) ∧ ∀ l, H l = none → Q (.ref l) (upd H l (.lst ys))) listK := fun w H c ds vs o Q R hv ho hre => by
  rw [hK]
  unfold listK at ho
  split at ho
  · split at ho
    · rename_i xs hs
      cases ho
      obtain ⟨v, rfl, q⟩ := dvs1 hv
      obtain ⟨a, us, h1, h2, h3⟩ := sview_ok R q hs
      subst h1
      exact ⟨a, us, rfl, h2, fun l hl => re_lst R h3 hl hre⟩
    · cases ho
  · cases ho
theorem opN_listN (hK : X.K = S.K) : OpN S E (fun xs H Q => ∃ p ys, xs = [.ref p] ∧ (SqL X.K H p ys ∨ SqT X.K H p ys) ∧ ∀ l, H l = none → Q (.ref l) (upd H l (.lst ys))) listNK := fun w H c ds vs o Q R hv ho hre => by
  rw [hK]
  unfold listNK at ho
  split at ho
  · split at ho
    · rename_i xs hs
      cases ho
      obtain ⟨v, rfl, q⟩ := dvs1 hv
      obtain ⟨a, us, h1, h2, h3⟩ := sview_ok R q hs
      subst h1
      exact ⟨a, us, rfl, h2, fun l hl => re_new R h3 hl hre⟩
    · cases ho
  · cases ho
theorem ce_tuple (C : Cxt S B φ lv X sc N E) {a : Expr} {f : SE} {p : Pos} (ha : PE X a (tD S E f)) (hg : glB sc "tuple" = true := by decide +kernel) (hs : starEach [a] X.env = [(false, eval a X.env)] := by rfl) :
    PE X (.Call (.Name "tuple" p) [a] [] pos) (tD S E (bE tupleK (consA f nilA))) := ce_bt C call_tuple_of (opN_tuple C.hK) C.blt.tuple (by decide +kernel) (ca_cons ha ca_nil hs) hg (he := hs)
theorem ce_list (C : Cxt S B φ lv X sc N E) {a : Expr} {f : SE} {p : Pos} (ha : PE X a (tD S E f)) (hg : glB sc "list" = true := by decide +kernel) (hs : starEach [a] X.env = [(false, eval a X.env)] := by rfl) :
    PE X (.Call (.Name "list" p) [a] [] pos) (tD S E (bE listK (consA f nilA))) := ce_bt C call_list_of (opN_list C.hK) C.blt.list (by decide +kernel) (ca_cons ha ca_nil hs) hg (he := hs)
theorem ce_listN (C : Cxt S B φ lv X sc N E) {a : Expr} {f : SE} {p : Pos} (ha : PE X a (tD S E f)) (hg : glB sc "list" = true := by decide +kernel) (hs : starEach [a] X.env = [(false, eval a X.env)] := by rfl) :
    PE X (.Call (.Name "list" p) [a] [] pos) (tD S E (bE listNK (consA f nilA))) := ce_bt C call_list_of (opN_listN C.hK) C.blt.list (by decide +kernel) (ca_cons ha ca_nil hs) hg (he := hs)

/-! ### numbers -/
def maxK : List D → Cells → Option Out
  | [.int i, .int j], c => okd (.int (if j > i then j else i)) c
  | _, _ => none
def minK : List D → Cells → Option Out
  | [.int i, .int j], c => okd (.int (if j < i then j else i)) c
  | _, _ => none
def absK : List D → Cells → Option Out
  | [.int i], c => okd (.int (if i < 0 then -i else i)) c
  | _, _ => none
def intK : List D → Cells → Option Out
  | [.int i], c => okd (.int i) c
  | [.bl b], c => okd (.int (if b then 1 else 0)) c
  | _, _ => none
def divmodK : List D → Cells → Option Out
  | [.int i, .int j], c => if decide (0 < j) && decide (j < 1073741824) then okd (.tup [.int (i / j), .int (i % j)]) c else none
  | _, _ => none
def gcdK : List D → Cells → Option Out
  | [.int i, .int j], c => okd (.int (Nat.gcd i.natAbs j.natAbs : Nat)) c
  | _, _ => none
theorem opN_max : OpN S E (fun xs H Q => ∃ i j, xs = [.int i, .int j] ∧ Q (.int (if j > i then j else i)) H) maxK := fun w H c ds vs o Q R hv ho hre => by
  unfold maxK at ho
  split at ho
  · cases ho
    obtain ⟨v, u, rfl, q, q2⟩ := dvs2 hv
    rw [dv_int q, dv_int q2]
    exact ⟨_, _, rfl, RE.now R dvInt hre⟩
  · cases ho
theorem opN_min : OpN S E (fun xs H Q => ∃ i j, xs = [.int i, .int j] ∧ Q (.int (if j < i then j else i)) H) minK := fun w H c ds vs o Q R hv ho hre => by
  unfold minK at ho
  split at ho
  · cases ho
    obtain ⟨v, u, rfl, q, q2⟩ := dvs2 hv
    rw [dv_int q, dv_int q2]
    exact ⟨_, _, rfl, RE.now R dvInt hre⟩
  · cases ho
theorem opN_abs : OpN S E (fun xs H Q => ∃ i, xs = [.int i] ∧ Q (.int (if i < 0 then -i else i)) H) absK := fun w H c ds vs o Q R hv ho hre => by
  unfold absK at ho
  split at ho
  · cases ho
    obtain ⟨v, rfl, q⟩ := dvs1 hv
    rw [dv_int q]
    exact ⟨_, rfl, RE.now R dvInt hre⟩
  · cases ho
theorem opN_int : OpN S E (fun xs H Q => (∃ i, xs = [.int i] ∧ Q (.int i) H) ∨ ∃ k, xs = [.bl k] ∧ Q (.int (if k then 1 else 0)) H) intK := fun w H c ds vs o Q R hv ho hre => by
  unfold intK at ho
  split at ho
  · cases ho
    obtain ⟨v, rfl, q⟩ := dvs1 hv
    rw [dv_int q]
    exact .inl ⟨_, rfl, RE.now R dvInt hre⟩
  · cases ho
    obtain ⟨v, rfl, q⟩ := dvs1 hv
    rw [dv_bl q]
    exact .inr ⟨_, rfl, RE.now R dvInt hre⟩
  · cases ho
theorem opN_divmod : OpN S E (fun xs H Q => ∃ i j, xs = [.int i, .int j] ∧ CDiv i j ∧ ∀ p, H p = none → Q (.ref p) (upd H p (.tup [.int (i / j), .int (i % j)]))) divmodK := fun w H c ds vs o Q R hv ho hre => by
  unfold divmodK at ho
  split at ho
  · split at ho
    · rename_i hz
      simp only [Bool.and_eq_true, decide_eq_true_eq] at hz
      cases ho
      obtain ⟨v, u, rfl, q, q2⟩ := dvs2 hv
      rw [dv_int q, dv_int q2]
      exact ⟨_, _, rfl, hz, fun p hp => re_tup R (DVs.cons dvInt (DVs.cons dvInt DVs.nil)) hp hre⟩
    · cases ho
  · cases ho
theorem opN_gcd : OpN S E rGcd gcdK := fun w H c ds vs o Q R hv ho hre => by
  unfold gcdK at ho
  split at ho
  · cases ho
    obtain ⟨v, u, rfl, q, q2⟩ := dvs2 hv
    rw [dv_int q, dv_int q2]
    exact ⟨_, _, rfl, RE.now R dvInt hre⟩
  · cases ho
section
variable {a b : Expr} {f g : SE} {p : Pos}
theorem ce_max (C : Cxt S B φ lv X sc N E) (ha : PE X a (tD S E f)) (hb : PE X b (tD S E g)) (hg : glB sc "max" = true := by decide +kernel) (hs : starEach [a, b] X.env = (false, eval a X.env) :: starEach [b] X.env := by rfl) (hs2 : starEach [b] X.env = [(false, eval b X.env)] := by rfl) (hpl : (backTo pos (starEach [b] X.env)).any (·.1) = false := by rfl) :
    PE X (.Call (.Name "max" p) [a, b] [] pos) (tD S E (bE maxK (consA f (consA g nilA)))) := ce_b C (call_max2 C.calm) opN_max C.blt.max (by decide +kernel) (ca_cons ha (ca_cons hb ca_nil hs2) hs) hg (he := hs) (hpl := hpl)
theorem ce_min (C : Cxt S B φ lv X sc N E) (ha : PE X a (tD S E f)) (hb : PE X b (tD S E g)) (hg : glB sc "min" = true := by decide +kernel) (hs : starEach [a, b] X.env = (false, eval a X.env) :: starEach [b] X.env := by rfl) (hs2 : starEach [b] X.env = [(false, eval b X.env)] := by rfl) (hpl : (backTo pos (starEach [b] X.env)).any (·.1) = false := by rfl) :
    PE X (.Call (.Name "min" p) [a, b] [] pos) (tD S E (bE minK (consA f (consA g nilA)))) := ce_b C (call_min2 C.calm) opN_min C.blt.min (by decide +kernel) (ca_cons ha (ca_cons hb ca_nil hs2) hs) hg (he := hs) (hpl := hpl)
theorem ce_divmod (C : Cxt S B φ lv X sc N E) (ha : PE X a (tD S E f)) (hb : PE X b (tD S E g)) (hg : glB sc "divmod" = true := by decide +kernel) (hs : starEach [a, b] X.env = (false, eval a X.env) :: starEach [b] X.env := by rfl) (hs2 : starEach [b] X.env = [(false, eval b X.env)] := by rfl) (hpl : (backTo pos (starEach [b] X.env)).any (·.1) = false := by rfl) :
    PE X (.Call (.Name "divmod" p) [a, b] [] pos) (tD S E (bE divmodK (consA f (consA g nilA)))) := ce_b C call_divmod opN_divmod C.blt.divmod (by decide +kernel) (ca_cons ha (ca_cons hb ca_nil hs2) hs) hg (he := hs) (hpl := hpl)
theorem ce_abs (C : Cxt S B φ lv X sc N E) (ha : PE X a (tD S E f)) (hg : glB sc "abs" = true := by decide +kernel) (hs : starEach [a] X.env = [(false, eval a X.env)] := by rfl) :
    PE X (.Call (.Name "abs" p) [a] [] pos) (tD S E (bE absK (consA f nilA))) := ce_b C call_abs opN_abs C.blt.abs (by decide +kernel) (ca_cons ha ca_nil hs) hg (he := hs)
theorem ce_intc (C : Cxt S B φ lv X sc N E) (ha : PE X a (tD S E f)) (hg : glB sc "int" = true := by decide +kernel) (hs : starEach [a] X.env = [(false, eval a X.env)] := by rfl) :
    PE X (.Call (.Name "int" p) [a] [] pos) (tD S E (bE intK (consA f nilA))) := ce_bt C call_int1 opN_int C.blt.int (by decide +kernel) (ca_cons ha ca_nil hs) hg (he := hs)
/-- a built-in function that was imported by its name -/
theorem ce_gcd (C : Cxt S B φ lv X sc N E) (i : Nat) {x : Str} (ha : PE X a (tD S E f)) (hb : PE X b (tD S E g)) (hi : B.bis[i]? = some (x, "math.gcd") := by rfl) (hg : glB sc x = true := by decide +kernel) (hdb : (x == ("__debug__" : Str)) = false := by decide +kernel)
    (hs : starEach [a, b] X.env = (false, eval a X.env) :: starEach [b] X.env := by rfl) (hs2 : starEach [b] X.env = [(false, eval b X.env)] := by rfl) (hpl : (backTo pos (starEach [b] X.env)).any (·.1) = false := by rfl) :
    PE X (.Call (.Name x p) [a, b] [] pos) (tD S E (bE gcdK (consA f (consA g nilA)))) :=
  (pe_callBfun cr_gcd (gl_of (by rw [C.hs]; exact hg)) (C.bi i x _ hi) (ca_cons ha (ca_cons hb ca_nil hs2) hs) hdb hs hpl).imp (tA_b opN_gcd)
end
/-! ### sorted of texts -/
def strsD : List D → Option (List Str)
  | [] => some []
  | .str b :: r => (strsD r).map (b :: ·)
  | _ => none
theorem strs_ok {w : Wd} : ∀ {xs : List D} {bs : List Str} {vs : List V}, strsD xs = some bs → DVs S w xs vs → vs = bs.map V.str
  | [], ns, vs, h, q => by
    simp only [strsD] at h
    simp only [DVs] at q
    cases h
    exact q
  | d :: r, ns, vs, h, q => by
    cases d with
    | str i =>
      simp only [strsD] at h
      simp only [DVs] at q
      obtain ⟨v, us, rfl, q1, q2⟩ := q
      cases hr : strsD r with
      | none => rw [hr] at h; cases h
      | some ms =>
        rw [hr] at h
        cases h
        rw [dv_str q1, strs_ok hr q2] <;> rfl
    | _ => simp only [strsD] at h; cases h
theorem dvs_strs {w : Wd} : ∀ ys : List Str, DVs S w (ys.map D.str) (ys.map V.str)
  | [] => DVs.nil
  | y :: ys => DVs.cons dvStr (dvs_strs ys)
/-- is t at most u? by the model's own order -/
def strLe (x y : Str) : Bool := !decide (y.cps.toList < x.cps.toList)
def insS (x : Str) : List Str → List Str
  | [] => [x]
  | y :: ys => if strLe x y then x :: y :: ys else y :: insS x ys
def sortS : List Str → List Str
  | [] => []
  | x :: xs => insS x (sortS xs)
end
end G
set_option Elab.async false
set_option linter.all false
set_option maxRecDepth 100000
set_option maxHeartbeats 4000000
namespace G
open PySem PySem.Spec PyProof.Rows L2

/-! ### statements -/
inductive SOut where
  | nx (e : Ev) (c : Cells)
  | ret (d : D) (c : Cells)
  | bk (e : Ev) (c : Cells)
  | ct (e : Ev) (c : Cells)
  | exc (k : Nat) (d : D) (c : Cells)
abbrev SS := Ev → Cells → Option SOut
abbrev Tg := D → Ev → Cells → Option (Ev × Cells)
def SR (S : Sta) (w : Wd) (H : Hp) (Dn : Ends) (E : XK) : SOut → Prop
  | .nx e c => ∀ w' H' σ', Tr w H w' H' → Rep S w' H' c → EnvR S w' e σ' → Dn.nx σ' H'
  | .ret d c => ∀ w' H' v, Tr w H w' H' → Rep S w' H' c → DV S w' d v → Dn.rt v H'
  | .bk e c => ∀ w' H' σ', Tr w H w' H' → Rep S w' H' c → EnvR S w' e σ' → Dn.bk σ' H'
  | .ct e c => ∀ w' H' σ', Tr w H w' H' → Rep S w' H' c → EnvR S w' e σ' → Dn.ct σ' H'
  | .exc k d c => ∀ w' H' cls dx, Tr w H w' H' → Rep S w' H' c → EXR S k d w' H' cls dx → E cls dx H'
def tS (S : Sta) (E : XK) (f : SS) : TS := fun Dn σ H => ∃ w env c o, Rep S w H c ∧ EnvR S w env σ ∧ f env c = some o ∧ SR S w H Dn E o
def bindS (m : Option Out) (f : D → Cells → Option SOut) : Option SOut := match m with
  | some (.ok d c) => f d c
  | some (.exc k d c) => some (.exc k d c)
  | none => none
def skipS : SS := fun e c => some (.nx e c)
def seqS (f g : SS) : SS := fun e c => match f e c with
  | some (.nx e1 c1) => g e1 c1
  | o => o
def retS (f : SE) : SS := fun e c => bindS (f e c) fun d c1 => some (.ret d c1)
def retNS : SS := fun _ c => some (.ret .non c)
def dropS (f : SE) : SS := fun e c => bindS (f e c) fun _ c1 => some (.nx e c1)
def ifSK (f g : SS) (e : Ev) : D → Cells → Option SOut
  | .bl true, c => f e c
  | .bl false, c => g e c
  | _, _ => none
def ifS (t : SE) (f g : SS) : SS := fun e c => bindS (t e c) (ifSK f g e)
def brkS : SS := fun e c => some (.bk e c)
def cntS : SS := fun e c => some (.ct e c)
def noS : SS := fun _ _ => none
def asgS (f : SE) (tg : Tg) : SS := fun e c => bindS (f e c) fun d c1 => match tg d e c1 with
  | some (e2, c2) => some (.nx e2 c2)
  | none => none
section
variable {S : Sta} {B : Tabl} {φ : Fns} {lv : Nat} {X : Cx} {sc : Scope} {N : List Str} {E : XK} {pos : Pos}
theorem _root_.L2.PS.imp {X : Cx} {e : Stmt} {t t' : TS} (h : PS X e t) (k : ∀ Dn σ H, t' Dn σ H → t Dn σ H) : PS X e t' := ⟨fun pins s σ H Dn I q => h.run pins s σ H Dn I (k Dn σ H q)⟩
theorem _root_.L2.PSs.imp {X : Cx} {e : List Stmt} {t t' : TS} (h : PSs X e t) (k : ∀ Dn σ H, t' Dn σ H → t Dn σ H) : PSs X e t' := ⟨fun pins s σ H Dn I q => h.run pins s σ H Dn I (k Dn σ H q)⟩
theorem _root_.L2.PG.imp {X : Cx} {e : Expr} {t t' : TG} (h : PG X e t) (k : ∀ v σ H Q, t' v σ H Q → t v σ H Q) : PG X e t' := ⟨fun pins s σ H v u Q I r q => h.run pins s σ H v u Q I r (k v σ H Q q)⟩
theorem _root_.L2.PGs.imp {X : Cx} {e : List Expr} {t t' : TGs} (h : PGs X e t) (k : ∀ v σ H Q, t' v σ H Q → t v σ H Q) : PGs X e t' := ⟨fun pins s σ H v u Q I r q => h.run pins s σ H v u Q I r (k v σ H Q q)⟩
theorem SR.tr {w w1 : Wd} {H H1 : Hp} {Dn : Ends} {o : SOut} (h : SR S w H Dn E o) (t : Tr w H w1 H1) : SR S w1 H1 Dn E o := by
  cases o with
  | nx e c => exact fun w' H' σ' t' => h w' H' σ' (t.trans t')
  | ret e c => exact fun w' H' σ' t' => h w' H' σ' (t.trans t')
  | bk e c => exact fun w' H' σ' t' => h w' H' σ' (t.trans t')
  | ct e c => exact fun w' H' σ' t' => h w' H' σ' (t.trans t')
  | exc k d c => exact fun w' H' cls dx t' => h w' H' cls dx (t.trans t')
/-- a reckoning, then a statement's end -/
theorem tS_bind {f : SE} {k : Ev → D → Cells → Option SOut} {σ : L2.St} {H : Hp} {Dn : Ends} {Q' : VK} (h : tS S E (fun env c => bindS (f env c) (k env)) Dn σ H)
    (q : ∀ w env d c v H1 o, Rep S w H1 c → EnvR S w env σ → DV S w d v → k env d c = some o → SR S w H1 Dn E o → Q' v H1) : tD S E f σ H Q' := by
  obtain ⟨w, env, c, o, R, e, hf, hr⟩ := h
  have hf : bindS (f env c) (k env) = some o := hf
  cases hm : f env c with
  | none => rw [hm] at hf; cases hf
  | some m =>
    rw [hm] at hf
    cases m with
    | ok d c1 => exact ⟨w, env, c, _, R, e, hm, fun w1 H1 v t R1 q1 => q w1 env d c1 v H1 o R1 (e.tr t) q1 hf (hr.tr t)⟩
    | exc kk d c1 =>
      have hf' : some (SOut.exc kk d c1) = some o := hf
      cases hf'
      exact ⟨w, env, c, _, R, e, hm, hr⟩
theorem cs_nil : PSs X [] (tS S E skipS) := pss_nil.imp fun Dn σ H ⟨w, env, c, o, R, e, hf, hr⟩ => by
  cases hf
  exact hr w H σ (Tr.refl w H) R e
theorem tS_seq {f g : SS} {Dn : Ends} {σ : L2.St} {H : Hp} (h : tS S E (seqS f g) Dn σ H) : tSeq (tS S E f) (tS S E g) Dn σ H := by
  obtain ⟨w, env, c, o, R, e, hf, hr⟩ := h
  show tS S E f { Dn with nx := tS S E g Dn } σ H
  unfold seqS at hf
  cases hm : f env c with
  | none => rw [hm] at hf; cases hf
  | some m =>
    rw [hm] at hf
    cases m with
    | nx e1 c1 => exact ⟨w, env, c, _, R, e, hm, fun w1 H1 σ1 t R1 er => ⟨w1, e1, c1, o, R1, er, hf, hr.tr t⟩⟩
    | ret d c1 => cases hf; exact ⟨w, env, c, _, R, e, hm, hr⟩
    | bk d c1 => cases hf; exact ⟨w, env, c, _, R, e, hm, hr⟩
    | ct d c1 => cases hf; exact ⟨w, env, c, _, R, e, hm, hr⟩
    | exc k d c1 => cases hf; exact ⟨w, env, c, _, R, e, hm, hr⟩
theorem cs_cons {st : Stmt} {rest : List Stmt} {f g : SS} (h1 : PS X st (tS S E f)) (h2 : PSs X rest (tS S E g)) : PSs X (st :: rest) (tS S E (seqS f g)) := (pss_cons h1 h2).imp fun _ _ _ h => tS_seq h
theorem cs_one {st : Stmt} {f : SS} (h : PS X st (tS S E f)) : PSs X [st] (tS S E f) := pss_one h
theorem cs_no {st : Stmt} : PS X st (tS S E noS) := ⟨fun _ _ _ _ _ _ h => by
  obtain ⟨w, env, c, o, _, _, hf, _⟩ := h
  cases hf⟩
theorem css_no {st : List Stmt} : PSs X st (tS S E noS) := ⟨fun _ _ _ _ _ _ h => by
  obtain ⟨w, env, c, o, _, _, hf, _⟩ := h
  cases hf⟩
theorem cs_ret {e : Expr} {f : SE} (h : PE X e (tD S E f)) : PS X (.Return (some e) pos) (tS S E (retS f)) := (ps_ret h).imp fun Dn σ H q =>
  tS_bind (k := fun _ d c1 => some (.ret d c1)) q fun w env d c v H1 o R e dv k sr => by
    cases k
    exact sr w H1 v (Tr.refl w H1) R dv
theorem cs_retN : PS X (.Return none pos) (tS S E retNS) := ps_retN.imp fun Dn σ H ⟨w, env, c, o, R, e, hf, hr⟩ => by
  cases hf
  exact hr w H _ (Tr.refl w H) R dvNon
theorem cs_expr {e : Expr} {f : SE} (h : PE X e (tD S E f)) (hs : swapsWith e none pos.line X.env = pure false := by rfl) : PS X (.Expr e pos) (tS S E (dropS f)) := (ps_expr h hs).imp fun Dn σ H q =>
  tS_bind (k := fun env _ c1 => some (.nx env c1)) q fun w env d c v H1 o R e dv k sr => by
    cases k
    exact sr w H1 σ (Tr.refl w H1) R e
theorem cs_doc {x : Str} {j : Nat} {p : Pos} : PS X (.Expr (.Constant (.str x) j p) pos) (tS S E skipS) := ps_doc.imp fun Dn σ H ⟨w, env, c, o, R, e, hf, hr⟩ => by
  cases hf
  exact hr w H σ (Tr.refl w H) R e
theorem cs_pass : PS X (.Pass pos) (tS S E skipS) := ps_pass.imp fun Dn σ H ⟨w, env, c, o, R, e, hf, hr⟩ => by
  cases hf
  exact hr w H σ (Tr.refl w H) R e
theorem cs_brk : PS X (.Break pos) (tS S E brkS) := ps_break.imp fun Dn σ H ⟨w, env, c, o, R, e, hf, hr⟩ => by
  cases hf
  exact hr w H σ (Tr.refl w H) R e
theorem cs_cnt : PS X (.Continue pos) (tS S E cntS) := ps_continue.imp fun Dn σ H ⟨w, env, c, o, R, e, hf, hr⟩ => by
  cases hf
  exact hr w H σ (Tr.refl w H) R e
theorem ifSK_bl {f g : SS} {e : Ev} {d : D} {c : Cells} {o : SOut} (h : ifSK f g e d c = some o) : ∃ b, d = .bl b := by
  cases d <;> first | exact ⟨_, rfl⟩ | cases h
theorem cs_if {t : Expr} {a b : List Stmt} {tt : SE} {f g : SS} (ht : PT X t (tT S E tt)) (ha : PSs X a (tS S E f)) (hb : PSs X b (tS S E g)) : PS X (.If t a b pos) (tS S E (ifS tt f g)) := (ps_if ht ha hb).imp fun Dn σ H q =>
  tS_bind (k := ifSK f g) q fun w env d c v H1 o R e dv k sr => by
    obtain ⟨b, rfl⟩ := ifSK_bl k
    refine ⟨b, dv_bl dv, ?_⟩
    cases b with
    | true => exact ⟨w, env, c, o, R, e, k, sr⟩
    | false => exact ⟨w, env, c, o, R, e, k, sr⟩

/-! ### targets -/
def tG (S : Sta) (tg : Tg) : TG := fun v σ H Q => ∃ w env c d e2 c2, Rep S w H c ∧ EnvR S w env σ ∧ DV S w d v ∧ tg d env c = some (e2, c2) ∧ ∀ w' H' σ', Tr w H w' H' → Rep S w' H' c2 → EnvR S w' e2 σ' → Q σ' H'
def tGs (S : Sta) (tg : List D → Ev → Cells → Option (Ev × Cells)) : TGs := fun vs σ H Q => ∃ w env c ds e2 c2, Rep S w H c ∧ EnvR S w env σ ∧ DVs S w ds vs ∧ tg ds env c = some (e2, c2) ∧ ∀ w' H' σ', Tr w H w' H' → Rep S w' H' c2 → EnvR S w' e2 σ' → Q σ' H'
def nameG (i : Nat) : Tg := fun d env c => some (env.set i (some d), c)
theorem cg_name (C : Cxt S B φ lv X sc N E) (i : Nat) {x : Str} (hi : N[i]? = some x := by rfl) (hl : sc.names.lookup x = some .local := by decide +kernel) : PG X (.Name x pos) (tG S (nameG i)) := by
  have hl' : X.env.scope.names.lookup x = some .local := by rw [C.hs]; exact hl
  refine (pg_name (i := i) (by rw [C.hN]; exact C.nd) (by rw [C.hN]; exact hi) (.inl hl') (.inr hl')).imp fun v σ H Q ⟨w, env, c, d, e2, c2, R, e, dv, hg, q⟩ => ?_
  cases hg
  exact q w H _ (Tr.refl w H) R (e.set i dv)
/-- a name that is captured further in -/
theorem cg_cell (C : Cxt S B φ lv X sc N E) (hf : ∀ x, X.fn x = true) (i : Nat) {x : Str} (hi : N[i]? = some x := by rfl) (hl : sc.names.lookup x = some .cell := by decide +kernel) : PG X (.Name x pos) (tG S (nameG i)) := by
  have hl' : X.env.scope.names.lookup x = some .cell := by rw [C.hs]; exact hl
  refine (pg_name (i := i) (by rw [C.hN]; exact C.nd) (by rw [C.hN]; exact hi) (.inr hl') (.inl (hf x))).imp fun v σ H Q ⟨w, env, c, d, e2, c2, R, e, dv, hg, q⟩ => ?_
  cases hg
  exact q w H _ (Tr.refl w H) R (e.set i dv)
abbrev Tgs := List D → Ev → Cells → Option (Ev × Cells)
def nilG : Tgs := fun ds env c => match ds with
  | [] => some (env, c)
  | _ => none
def consG (g : Tg) (h : Tgs) : Tgs := fun ds env c => match ds with
  | d :: r => match g d env c with
    | some (e1, c1) => h r e1 c1
    | none => none
  | [] => none
theorem cgs_nil : PGs X [] (tGs S nilG) := pgs_nil.imp fun vs σ H Q ⟨w, env, c, ds, e2, c2, R, e, dv, hg, q⟩ => by
  cases ds with
  | nil =>
    cases hg
    simp only [DVs] at dv
    exact ⟨dv, q w H σ (Tr.refl w H) R e⟩
  | cons d r => cases hg
theorem cgs_cons {a : Expr} {es : List Expr} {g : Tg} {h : Tgs} (h1 : PG X a (tG S g)) (h2 : PGs X es (tGs S h)) (hs : (assignEach (a :: es) X.env).map (·.2) = assign a X.env :: (assignEach es X.env).map (·.2) := by rfl) :
    PGs X (a :: es) (tGs S (consG g h)) := (pgs_cons h1 h2 hs).imp fun vs σ H Q ⟨w, env, c, ds, e2, c2, R, e, dv, hg, q⟩ => by
  cases ds with
  | nil => cases hg
  | cons d r =>
    simp only [DVs] at dv
    obtain ⟨v, us, rfl, dv1, dv2⟩ := dv
    simp only [consG] at hg
    split at hg
    · rename_i e1 c1 he
      exact ⟨v, us, rfl, w, env, c, d, e1, c1, R, e, dv1, he, fun w' H' σ' t R' er => ⟨w', e1, c1, r, e2, c2, R', er, dv2.tr t, hg, fun w2 H2 σ2 t2 => q w2 H2 σ2 (t.trans t2)⟩⟩
    · cases hg
/-- a, b, .. = a tuple -/
def tupG (n : Nat) (h : Tgs) : Tg := fun d env c => match d with
  | .tup ds => if ds.length = n then h ds env c else none
  | _ => none
theorem cg_tup (C : Cxt S B φ lv X sc N E) {es : List Expr} {k n : Nat} {h : Tgs} (hg : PGs X es (tGs S h)) (hn : (assignEach es X.env).length = n := by rfl) (hst : (assignEach es X.env).findIdx? (·.1) = none := by rfl) :
    PG X (.Tuple es k pos) (tG S (tupG n h)) := (pg_tup C.calm hg hn hst).imp fun v σ H Q ⟨w, env, c, d, e2, c2, R, e, dv, hg, q⟩ => by
  cases d with
  | tup ds =>
    simp only [tupG] at hg
    split at hg
    · rename_i hl
      obtain ⟨a, vs, h1, h2, h3⟩ := dv_tup R dv
      rw [C.hK]
      exact ⟨a, vs, h1, h2, by rw [← h3.length]; exact hl, w, env, c, ds, e2, c2, R, e, h3, hg, q⟩
    · cases hg
  | _ => cases hg
/-- a, b, .. = a list -/
def unlG (n : Nat) (h : Tgs) : Tg := fun d env c => match lqview c d with
  | some ds => if ds.length = n then h ds env c else none
  | none => none
theorem cg_unl (C : Cxt S B φ lv X sc N E) {es : List Expr} {k n : Nat} {h : Tgs} (hg : PGs X es (tGs S h)) (hn : (assignEach es X.env).length = n := by rfl) (hst : (assignEach es X.env).findIdx? (·.1) = none := by rfl) :
    PG X (.Tuple es k pos) (tG S (unlG n h)) := (pg_unl C.calm hg hn hst).imp fun v σ H Q ⟨w, env, c, d, e2, c2, R, e, dv, hg, q⟩ => by
  simp only [unlG] at hg
  split at hg
  · rename_i ds hd
    split at hg
    · rename_i hl
      obtain ⟨a, vs, h1, h2, h3⟩ := lqview_ok R dv hd
      rw [C.hK]
      exact ⟨a, vs, h1, h2, by rw [← h3.length]; exact hl, w, env, c, ds, e2, c2, R, e, h3, hg, q⟩
    · cases hg
  · cases hg
theorem cs_asg {e tg : Expr} {f : SE} {g : Tg} (he : PE X e (tD S E f)) (hg : PG X tg (tG S g)) (hs : swapsWithSole [tg] e pos.line X.env = pure false := by rfl) (hw : swappedStores [tg] e X.env = pure none := by rfl)
    (h1 : (assignEach [tg] X.env).map (·.2) = [assign tg X.env] := by rfl) : PS X (.Assign [tg] e pos) (tS S E (asgS f g)) :=
  (ps_asg he hg hs hw h1).imp fun Dn σ H q => tS_bind (k := fun env d c1 => match g d env c1 with
    | some (e2, c2) => some (.nx e2 c2)
    | none => none) q fun w env d c v H1 o R e dv k sr => by
      split at k
      · rename_i e2 c2 he
        cases k
        exact ⟨w, env, c, d, e2, c2, R, e, dv, he, fun w' H' σ' t R' er => sr w' H' σ' t R' er⟩
      · cases k
theorem tSA_bind {f : SE} {k : Ev → D → Cells → Option SOut} {σ : L2.St} {H : Hp} {Dn : Ends} {Q' : List V → Hp → Prop} (h : tS S E (fun env c => bindS (f env c) (k env)) Dn σ H) (ht : ∀ {env d c o}, k env d c = some o → ∃ ds, d = .tup ds)
    (q : ∀ w env ds c vs H1 o, Rep S w H1 c → EnvR S w env σ → DVs S w ds vs → k env (.tup ds) c = some o → SR S w H1 Dn E o → Q' vs H1) : tA S E f σ H Q' := by
  obtain ⟨w, env, c, o, R, e, hf, hr⟩ := h
  have hf : bindS (f env c) (k env) = some o := hf
  cases hm : f env c with
  | none => rw [hm] at hf; cases hf
  | some m =>
    rw [hm] at hf
    cases m with
    | ok d c1 =>
      have hf : k env d c1 = some o := hf
      obtain ⟨ds, rfl⟩ := ht hf
      exact ⟨w, env, c, _, R, e, hm, fun w1 H1 vs t R1 q1 => q w1 env ds c1 vs H1 o R1 (e.tr t) q1 hf (hr.tr t)⟩
    | exc kk d c1 =>
      have hf' : some (SOut.exc kk d c1) = some o := hf
      cases hf'
      exact ⟨w, env, c, _, R, e, hm, hr⟩
def par2K (i j : Nat) (env : Ev) : D → Cells → Option SOut
  | .tup [x, y], c => some (.nx ((env.set i (some x)).set j (some y)) c)
  | _, _ => none
def par2S (i j : Nat) (f : SE) : SS := fun e c => bindS (f e c) (par2K i j e)
def par3K (i j l : Nat) (env : Ev) : D → Cells → Option SOut
  | .tup [x, y, z], c => some (.nx (((env.set i (some x)).set j (some y)).set l (some z)) c)
  | _, _ => none
def par3S (i j l : Nat) (f : SE) : SS := fun e c => bindS (f e c) (par3K i j l e)
theorem par2K_tup {i j : Nat} {env : Ev} {d : D} {c : Cells} {o : SOut} (h : par2K i j env d c = some o) : ∃ x y, d = .tup [x, y] ∧ o = .nx ((env.set i (some x)).set j (some y)) c := by
  unfold par2K at h
  split at h
  · exact ⟨_, _, rfl, (Option.some.inj h).symm⟩
  · cases h
theorem par3K_tup {i j l : Nat} {env : Ev} {d : D} {c : Cells} {o : SOut} (h : par3K i j l env d c = some o) : ∃ x y z, d = .tup [x, y, z] ∧ o = .nx (((env.set i (some x)).set j (some y)).set l (some z)) c := by
  unfold par3K at h
  split at h
  · exact ⟨_, _, _, rfl, (Option.some.inj h).symm⟩
  · cases h
theorem cs_par2 (C : Cxt S B φ lv X sc N E) (i j : Nat) {x y : Str} {a b : Expr} {f : SE} {px py pt : Pos} {kt k2 : Nat} {pt2 : Pos} (ha : PA X [a, b] (tA S E f)) (hi : N[i]? = some x := by rfl) (hj : N[j]? = some y := by rfl) (hij : i ≠ j := by decide)
    (hx : sc.names.lookup x = some .local := by decide +kernel) (hy : sc.names.lookup y = some .local := by decide +kernel)
    (hw : swappedStores [.Tuple [.Name x px, .Name y py] kt pt] (.Tuple [a, b] k2 pt2) X.env = pure (some [x, y]) := by rfl)
    (hs : swapsWithSole [.Tuple [.Name x px, .Name y py] kt pt] (.Tuple [a, b] k2 pt2) pos.line X.env = pure false := by rfl) :
    PS X (.Assign [.Tuple [.Name x px, .Name y py] kt pt] (.Tuple [a, b] k2 pt2) pos) (tS S E (par2S i j f)) :=
  (ps_par C.calm (by rw [C.hN]; exact C.nd) (by rw [C.hN]; exact hi) (by rw [C.hN]; exact hj) hij (by rw [C.hs]; exact hx) (by rw [C.hs]; exact hy) ha hw hs).imp fun Dn σ H q =>
    tSA_bind (k := par2K i j) q (fun h => let ⟨x, y, h1, _⟩ := par2K_tup h; ⟨_, h1⟩) fun w env ds c vs H1 o R er dv k sr => by
      obtain ⟨x, y, h1, rfl⟩ := par2K_tup k
      cases h1
      obtain ⟨v, u, rfl, q1, q2⟩ := dvs2 dv
      exact ⟨v, u, rfl, sr w H1 _ (Tr.refl w H1) R ((er.set i q1).set j q2)⟩
theorem dvs3 {w : Wd} {d e f : D} {vs : List V} (h : DVs S w [d, e, f] vs) : ∃ v u t, vs = [v, u, t] ∧ DV S w d v ∧ DV S w e u ∧ DV S w f t := by
  simp only [DVs] at h
  obtain ⟨v, r, rfl, q, v2, r2, rfl, q2, v3, r3, rfl, q3, rfl⟩ := h
  exact ⟨v, v2, v3, rfl, q, q2, q3⟩
theorem cs_par3 (C : Cxt S B φ lv X sc N E) (i j l : Nat) {x y z : Str} {a b c : Expr} {f : SE} {px py pz pt : Pos} {kt k2 : Nat} {pt2 : Pos} (ha : PA X [a, b, c] (tA S E f)) (hi : N[i]? = some x := by rfl) (hj : N[j]? = some y := by rfl) (hk : N[l]? = some z := by rfl)
    (hij : i ≠ j := by decide) (hil : i ≠ l := by decide) (hjl : j ≠ l := by decide)
    (hx : sc.names.lookup x = some .local := by decide +kernel) (hy : sc.names.lookup y = some .local := by decide +kernel) (hz : sc.names.lookup z = some .local := by decide +kernel)
    (hw : swappedStores [.Tuple [.Name x px, .Name y py, .Name z pz] kt pt] (.Tuple [a, b, c] k2 pt2) X.env = pure (some [x, y, z]) := by rfl)
    (hs : swapsWithSole [.Tuple [.Name x px, .Name y py, .Name z pz] kt pt] (.Tuple [a, b, c] k2 pt2) pos.line X.env = pure false := by rfl) :
    PS X (.Assign [.Tuple [.Name x px, .Name y py, .Name z pz] kt pt] (.Tuple [a, b, c] k2 pt2) pos) (tS S E (par3S i j l f)) :=
  (ps_par3 C.calm (by rw [C.hN]; exact C.nd) (by rw [C.hN]; exact hi) (by rw [C.hN]; exact hj) (by rw [C.hN]; exact hk) hij hil hjl (by rw [C.hs]; exact hx) (by rw [C.hs]; exact hy) (by rw [C.hs]; exact hz) ha hw hs).imp fun Dn σ H q =>
    tSA_bind (k := par3K i j l) q (fun h => let ⟨x, y, z, h1, _⟩ := par3K_tup h; ⟨_, h1⟩) fun w env ds c vs H1 o R er dv k sr => by
      obtain ⟨x, y, z, h1, rfl⟩ := par3K_tup k
      cases h1
      obtain ⟨v, u, t, rfl, q1, q2, q3⟩ := dvs3 dv
      exact ⟨v, u, t, rfl, sr w H1 _ (Tr.refl w H1) R (((er.set i q1).set j q2).set l q3)⟩

/-! ### a list that changes: a[i] = e, a.append(e) -/
/-- the list n is another one now -/
theorem cell_put {w : Wd} {H : Hp} {c : Cells} {n : Nat} {a : Addr} {l : List D} {vs : List V} (R : Rep S w H c) (ha : w.cs[n]? = some a) (hc : n < c.length) (hH : ∃ us, H a = some (.lst us)) (hv : DVs S w l vs) :
    Tr w H w (upd H a (.lst vs)) ∧ Rep S w (upd H a (.lst vs)) (c.set n l) := by
  obtain ⟨us, hH⟩ := hH
  have hp : w.PH a = none := (R.cell n a c[n] ha (by simp [hc])).1
  have hm : a ∈ w.cs := List.mem_of_getElem? ha
  refine ⟨⟨fun _ _ q => q, fun _ _ q => .inl q, ⟨[], by simp⟩, fun _ q => .inl q, fun b o q nb _ => ?_, fun b q => ?_⟩, ⟨fun b o q => ?_, ?_, R.nd, fun m b l' h1 h2 => ?_, ?_, R.tabP⟩⟩
  · rw [upd_ne (show b ≠ a from fun e => nb (by rw [e]; exact hm))]; exact q
  · by_cases e : b = a
    · subst e; rw [upd_same]; simp
    · rw [upd_ne e]; exact q
  · rw [upd_ne (ne_of_none q hp)]; exact R.per b o q
  · rw [List.length_set]; exact R.len
  · by_cases e : n = m
    · subst e
      rw [ha] at h1
      cases h1
      rw [List.getElem?_set_self hc] at h2
      cases h2
      exact ⟨hp, vs, upd_same, hv⟩
    · rw [List.getElem?_set_ne e] at h2
      obtain ⟨q1, us', q2, q3⟩ := R.cell m b l' h1 h2
      have nb : b ≠ a := fun z => by
        subst z
        obtain ⟨g1, e1⟩ := List.getElem?_eq_some_iff.mp ha
        obtain ⟨g2, e2⟩ := List.getElem?_eq_some_iff.mp h1
        exact e ((List.getElem_inj R.nd).mp (e1.trans e2.symm))
      exact ⟨q1, us', by rw [upd_ne nb]; exact q2, q3⟩
  · intro p hpT
    obtain ⟨ps, e1, e2, e3⟩ := R.tab p hpT
    have np : p.1 ≠ a := fun z => by rw [z, hH] at e1; cases e1
    refine ⟨ps, by rw [upd_ne np]; exact e1, e2, fun pos cv hcv => ?_⟩
    obtain ⟨c0, q1, q2⟩ := e3 pos cv hcv
    refine ⟨c0, q1, ?_⟩
    have nc : c0 ≠ a := fun z => by
      rw [z, hH] at q2
      have : HO.lst us = LamX.CodeO a (p.2 pos.line pos.col) := by rw [← z]; exact Option.some.inj (by rw [← z] at q2; exact q2)
      unfold LamX.CodeO at this
      cases this
    rw [upd_ne nc]; exact q2
end
end G
set_option Elab.async false
set_option linter.all false
set_option maxRecDepth 100000
set_option maxHeartbeats 4000000
namespace G
open PySem PySem.Spec PyProof.Rows L2
section
variable {S : Sta} {B : Tabl} {φ : Fns} {lv : Nat} {X : Cx} {sc : Scope} {N : List Str} {E : XK} {pos : Pos}

/-! ### methods of lists and texts -/
def argK (k : List D → Cells → Option Out) : D → Cells → Option Out
  | .tup ds, c => k ds c
  | _, _ => none
def lmE (k : D → List D → Cells → Option Out) (fo fa : SE) : SE := fun env c => bindO (fo env c) fun x c1 => match lqview c1 x with
  | some _ => bindO (fa env c1) (argK (k x))
  | none => none
def smE (k : Str → List D → Cells → Option Out) (fo fa : SE) : SE := fun env c => bindO (fo env c) fun x c1 => match x with
  | .str z => bindO (fa env c1) (argK (k z))
  | _ => none
theorem argK_tup {k : List D → Cells → Option Out} : ∀ {d : D} {c : Cells} {o : Out}, argK k d c = some o → ∃ ds, d = .tup ds := fun {d c o} h => by
  cases d <;> first | exact ⟨_, rfl⟩ | cases h
def OpM (S : Sta) (E : XK) (r : V → List V → Hp → VK → Prop) (k : D → List D → Cells → Option Out) : Prop := ∀ w H c d x ds vs o (Q : VK), Rep S w H c → DV S w d x → DVs S w ds vs → k d ds c = some o → RE S w H Q E o → r x vs H Q
theorem RA_mk {w : Wd} {H : Hp} {env : Ev} {c : Cells} {σ : L2.St} {fa : SE} {k : List D → Cells → Option Out} {o : Out} {Q : VK} {Q' : List V → Hp → Prop} (R : Rep S w H c) (er : EnvR S w env σ) (hf : bindO (fa env c) (argK k) = some o) (hr : RE S w H Q E o)
    (q : ∀ w' H' c' ds vs, Tr w H w' H' → Rep S w' H' c' → DVs S w' ds vs → k ds c' = some o → RE S w' H' Q E o → Q' vs H') : tA S E fa σ H Q' := by
  cases hm : fa env c with
  | none => rw [hm] at hf; cases hf
  | some m =>
    rw [hm] at hf
    cases m with
    | ok d c1 =>
      have hf : argK k d c1 = some o := hf
      obtain ⟨ds, rfl⟩ := argK_tup hf
      exact ⟨w, env, c, _, R, er, hm, fun w1 H1 vs t R1 q1 => q w1 H1 c1 ds vs t R1 q1 hf (hr.tr t)⟩
    | exc kk d c1 =>
      have hf' : some (Out.exc kk d c1) = some o := hf
      cases hf'
      exact ⟨w, env, c, _, R, er, hm, hr⟩
theorem tD_lm {r : V → List V → Hp → VK → Prop} {k : D → List D → Cells → Option Out} {fo fa : SE} (hK : X.K = S.K) (h : OpM S E r k) : ∀ σ H Q, tD S E (lmE k fo fa) σ H Q → tBM X.K "list" r (tD S E fo) (tA S E fa) σ H Q := fun σ H Q q =>
  tD_bind (g := fun env x c1 => match lqview c1 x with
    | some _ => bindO (fa env c1) (argK (k x))
    | none => none) q fun w env d c v H1 o R er dv kk re => by
    split at kk
    · rename_i l hl
      obtain ⟨a, vs, h1, h2, h3⟩ := lqview_ok R dv hl
      refine ⟨by rw [h1, hK]; exact .inl ⟨rfl, vs, h2⟩, RA_mk R er kk re fun w' H' c' ds us t R' q1 k1 re1 => h w' H' c' d v ds us o Q R' (dv.tr t) q1 k1 re1⟩
    · cases kk
theorem tD_sm {r : V → List V → Hp → VK → Prop} {k : Str → List D → Cells → Option Out} {fo fa : SE} (h : OpM S E r (fun d => match d with
    | .str z => k z
    | _ => fun _ _ => none)) : ∀ σ H Q, tD S E (smE k fo fa) σ H Q → tBM X.K "str" r (tD S E fo) (tA S E fa) σ H Q := fun σ H Q q =>
  tD_bind (g := fun env x c1 => match x with
    | .str z => bindO (fa env c1) (argK (k z))
    | _ => none) q fun w env d c v H1 o R er dv kk re => by
    split at kk
    · refine ⟨by rw [dv_str dv]; rfl, RA_mk R er kk re fun w' H' c' ds us t R' q1 k1 re1 => h w' H' c' _ v ds us o Q R' (dv.tr t) q1 k1 re1⟩
    · cases kk
def appK : D → List D → Cells → Option Out := fun x ds c => match x, ds with
  | .cell n, [y] => match c[n]? with
    | some l => if sz l.length then some (.ok .non (c.set n (l ++ [y]))) else none
    | none => none
  | _, _ => none
theorem opM_app : OpM S E rAppend appK := fun w H c d x ds vs o Q R hx hv ho hre => by
  unfold appK at ho
  split at ho
  · rename_i n y
    split at ho
    · rename_i l hl
      split at ho
      · rename_i hz
        cases ho
        obtain ⟨v, rfl, q⟩ := dvs1 hv
        simp only [DV] at hx
        obtain ⟨a, h1, rfl⟩ := hx
        obtain ⟨_, us, h2, h3⟩ := R.cell n a l h1 hl
        have hn : n < c.length := (List.getElem?_eq_some_iff.mp hl).1
        obtain ⟨t, R'⟩ := cell_put R h1 hn ⟨us, h2⟩ (h3.append (DVs.cons q DVs.nil))
        exact ⟨a, us, v, rfl, rfl, h2, by rw [← h3.length]; exact sz_lt hz, hre w _ .non t R' dvNon⟩
      · cases ho
    · cases ho
  · cases ho
theorem ce_append (C : Cxt S B φ lv X sc N E) {o e : Expr} {fo fa : SE} {apos : Pos} (ho : PE X o (tD S E fo)) (ha : PE X e (tD S E fa))
    (hs : starEach [e] X.env = [(false, eval e X.env)] := by rfl) (hbase : attributeBase o "append" X.env (eval o X.env) = eval o X.env := by rfl)
    (hfew : ((backTo pos (starEach [e] X.env)).all (fun x => !x.1) && (backToKw pos (keywordEach [] X.env)).all (fun x => x.1.isSome)
      && decide (([e] : List Expr).length + ([] : List Keyword).length + (if ([] : List Keyword).isEmpty then 0 else 1) < 30)) = true := by rfl)
    (hline : (apos.endLine == pos.line) = true := by rfl) : PE X (.Call (.Attribute o "append" apos) [e] [] pos) (tD S E (lmE appK fo (consA fa nilA))) :=
  (pe_bm PySem.F.plainAttrs_list PySem.F.slot_list_append PySem.F.type_list_append mt_append ho (ca_cons ha ca_nil hs) hbase hfew hline (by rw [hs]; rfl) (by rfl)).imp (tD_lm C.hK opM_app)

/-! ### a[i] = e -/
def subG (fo fi : SE) : Tg := fun d env c => match fo env c with
  | some (.ok (.cell n) c1) => (match fi env c1 with
    | some (.ok (.int i) c2) => (match c2[n]? with
      | some l => (match ixN l.length i with
        | some j => some (env, c2.set n (l.set j d))
        | none => none)
      | none => none)
    | _ => none)
  | _ => none
theorem cg_sub (C : Cxt S B φ lv X sc N E) {o i : Expr} {fo fi : SE} (ho : PE X o (tD S E fo)) (hi : PE X i (tD S E fi))
    (ha : ∀ v, assign (.Subscript o i pos) X.env v = (do
      let ov ← holding [v] (eval o X.env)
      let iv ← holding [v, ov] (eval i X.env)
      standAt pos
      holding [v, ov, iv] (setItem ov iv v)
      release [v, ov, iv] []) := by intro _; rfl) : PG X (.Subscript o i pos) (tG S (subG fo fi)) := by
  refine (pg_sub ho hi set_list ha).imp fun v σ H Q ⟨w, env, c, d, e2, c2, R, e, dv, hg, q⟩ => ?_
  unfold subG at hg
  split at hg
  · rename_i n c1 h1
    split at hg
    · rename_i k c3 h2
      split at hg
      · rename_i l h3
        split at hg
        · rename_i j h4
          cases hg
          refine ⟨w, env, c, _, R, e, h1, fun w1 H1 ov t1 R1 q1 => ?_⟩
          refine ⟨w1, env, c1, _, R1, e.tr t1, h2, fun w2 H2 iv t2 R2 q2 => ?_⟩
          have q1' := q1.tr t2
          simp only [DV] at q1'
          obtain ⟨a, g1, rfl⟩ := q1'
          obtain ⟨_, us, g2, g3⟩ := R2.cell n a l g1 h3
          have hn : n < c3.length := (List.getElem?_eq_some_iff.mp h3).1
          have dv2 := (dv.tr t1).tr t2
          obtain ⟨t, R'⟩ := cell_put R2 g1 hn ⟨us, g2⟩ (DVs.set dv2 j g3)
          exact ⟨a, us, k, j, rfl, dv_int q2, g2, by rw [← g3.length]; exact h4, q w2 _ σ ((t1.trans t2).trans t) R' (((e.tr t1).tr t2).tr t)⟩
        · cases hg
      · cases hg
    · cases hg
  · cases hg

/-! ### what is walked -/
/-- J yields these items, from this world on -/
def ItOk (S : Sta) (J : It) (items : List D) (w1 : Wd) : Prop := ∀ w H c, (∀ a o, w1.PH a = some o → w.PH a = some o) → w1.cs <+: w.cs → Rep S w H c →
  (∀ i, items.length ≤ i → J.stop i H) ∧ ∀ (i : Nat) (d : D), items[i]? = some d → J.go i H ∧ ∀ x H', J.yld i H x H' → ∃ w', Tr w H w' H' ∧ Rep S w' H' c ∧ DV S w' d x
def tI (S : Sta) (E : XK) (f : SE) : TI := fun σ H R' => ∃ w env c o, Rep S w H c ∧ EnvR S w env σ ∧ f env c = some o ∧ (match o with
  | .ok (.tup items) c1 => ∀ w1 H1 J, Tr w H w1 H1 → Rep S w1 H1 c1 → ItOk S J items w1 → R' J H1
  | .ok _ _ => False
  | .exc k d c1 => ∀ w1 H1 cls dx, Tr w H w1 H1 → Rep S w1 H1 c1 → EXR S k d w1 H1 cls dx → E cls dx H1)
theorem _root_.L2.PI.imp {X : Cx} {tg e : Expr} {t t' : TI} (h : PI X tg e t) (k : ∀ σ H R, t' σ H R → t σ H R) : PI X tg e t' := ⟨fun pins s σ H R I q => h.run pins s σ H R I (k σ H R q)⟩
theorem itOk_list {a : Addr} {items : List D} {vs : List V} {w1 : Wd} (h : SqL S.K w1.PH a vs) (hv : DVs S w1 items vs) : ItOk S (Itl S.K a) items w1 := fun w H c hp hcs R => by
  have hH : SqL S.K H a vs := sql_mono R.per (sql_mono hp h)
  have hw : DVs S w items vs := DVs.mono hp hcs _ _ hv
  refine ⟨fun i hi => ⟨vs, hH, by rw [← hv.length]; exact hi⟩, fun i d hd => ?_⟩
  obtain ⟨v, e1, e2⟩ := hw.get hd
  refine ⟨⟨vs, v, hH, e1⟩, fun x H' ⟨eH, y⟩ => ?_⟩
  subst eH
  have := y vs hH
  rw [e1] at this
  cases this
  exact ⟨w, Tr.refl w _, R, e2⟩
theorem itOk_tup {a : Addr} {items : List D} {vs : List V} {w1 : Wd} (h : SqT S.K w1.PH a vs) (hv : DVs S w1 items vs) : ItOk S (Itt S.K a) items w1 := fun w H c hp hcs R => by
  have hH : SqT S.K H a vs := sqt_mono R.per (sqt_mono hp h)
  have hw : DVs S w items vs := DVs.mono hp hcs _ _ hv
  refine ⟨fun i hi => ⟨vs, hH, by rw [← hv.length]; exact hi⟩, fun i d hd => ?_⟩
  obtain ⟨v, e1, e2⟩ := hw.get hd
  refine ⟨⟨vs, v, hH, e1⟩, fun x H' ⟨eH, y⟩ => ?_⟩
  subst eH
  have := y vs hH
  rw [e1] at this
  cases this
  exact ⟨w, Tr.refl w _, R, e2⟩
def rangeD (lo : Int) (n : Nat) : List D := (List.range n).map fun i : Nat => .int (lo + (i : Nat))
theorem itOk_range {lo : Int} {n : Nat} {w1 : Wd} : ItOk S (Itr lo n) (rangeD lo n) w1 := fun w H c hp hcs R => by
  refine ⟨fun i hi => by show n ≤ i; simpa [rangeD] using hi, fun i d hd => ?_⟩
  have hi : i < n := by
    have := (List.getElem?_eq_some_iff.mp hd).1
    simpa [rangeD] using this
  have e : d = .int (lo + (i : Nat)) := by
    have : (rangeD lo n)[i]? = some (.int (lo + (i : Nat))) := by simp [rangeD, hi]
    rw [this] at hd
    exact (Option.some.inj hd).symm
  subst e
  refine ⟨hi, fun x H' ⟨eH, ex⟩ => ?_⟩
  subst eH ex
  exact ⟨w, Tr.refl w _, R, dvInt⟩
/-- over the things of a list or tuple that stands still -/
def iterK : D → Cells → Option Out
  | .tup xs, c => some (.ok (.tup xs) c)
  | .lst xs, c => some (.ok (.tup xs) c)
  | .scr xs, c => some (.ok (.tup xs) c)
  | _, _ => none
def iSeq (K : PySem.W.Frag) (tl : TE) : TI := fun σ H R => tl σ H fun x H1 => ∃ a, x = .ref a ∧ (((∃ xs, SqL K H1 a xs) ∧ R (Itl K a) H1) ∨ ((∃ xs, SqT K H1 a xs) ∧ R (Itt K a) H1))
theorem pi_seq {tg l : Expr} {tl : TE} (hl : PE X l tl) : PI X tg l (iSeq X.K tl) := by
  refine ⟨fun pins s σ H R I h => ?_⟩
  refine thn (hl.run pins s σ H _ I h) fun v s1 ⟨x, H1, I1, r1, a, ex, q1⟩ => ?_
  subst ex
  have hv : v = Value.ref a := r1
  subst hv
  rcases q1 with ⟨⟨xs, hq⟩, q⟩ | ⟨⟨xs, hq⟩, q⟩
  · obtain ⟨its, rv, p, hz⟩ := I1.list hq
    refine wpAny_pyIter_list p.isList ?_
    refine ⟨s1.heap.objs.size, [s1.heap.objs.size], _, _, H1, rfl, I1.kept (t' := s1.toks) fun b o e => Heap.get?_push_of_some _ e, turn_list a _, ⟨_, Heap.get?_push_size _ rfl, rfl, rfl⟩, fun b hb => ?_, q⟩
    rw [List.mem_singleton.mp hb]
    exact I1.fpOk (Nat.le_refl _) (I1.hok.fresh (Nat.le_refl _))
  · obtain ⟨its, rv, p, hz⟩ := I1.tuple hq
    refine wpAny_pyIter_tuple (show s1.heap.IsTuple a its.toArray from p) ?_
    refine ⟨s1.heap.objs.size, [s1.heap.objs.size], _, _, H1, rfl, I1.kept (t' := s1.toks) fun b o e => Heap.get?_push_of_some _ e, turn_tuple a _, ⟨_, Heap.get?_push_size _ rfl, rfl, rfl⟩, fun b hb => ?_, q⟩
    rw [List.mem_singleton.mp hb]
    exact I1.fpOk (Nat.le_refl _) (I1.hok.fresh (Nat.le_refl _))
/-- a thing, then what is walked -/
theorem tI_bind {f : SE} {k : Ev → D → Cells → Option Out} {σ : L2.St} {H : Hp} {R' : It → Hp → Prop} {Q' : VK} (h : tI S E (fun env c => bindO (f env c) (k env)) σ H R') (hk : ∀ {env d c o}, k env d c = some o → ∃ items c1, o = .ok (.tup items) c1)
    (q : ∀ w env d c v H1 items c1, Rep S w H1 c → EnvR S w env σ → DV S w d v → k env d c = some (.ok (.tup items) c1) → (∀ w1 H2 J, Tr w H1 w1 H2 → Rep S w1 H2 c1 → ItOk S J items w1 → R' J H2) → Q' v H1) : tD S E f σ H Q' := by
  obtain ⟨w, env, c, o, R, e, hf, hr⟩ := h
  have hf : bindO (f env c) (k env) = some o := hf
  cases hm : f env c with
  | none => rw [hm] at hf; cases hf
  | some m =>
    rw [hm] at hf
    cases m with
    | ok d c1 =>
      have hf : k env d c1 = some o := hf
      obtain ⟨items, c2, rfl⟩ := hk hf
      exact ⟨w, env, c, _, R, e, hm, fun w1 H1 v t R1 q1 => q w1 env d c1 v H1 items c2 R1 (e.tr t) q1 hf fun w2 H2 J t2 R2 i2 => hr w2 H2 J (t.trans t2) R2 i2⟩
    | exc kk d c1 =>
      have hf' : some (Out.exc kk d c1) = some o := hf
      cases hf'
      exact ⟨w, env, c, _, R, e, hm, hr⟩
theorem iterK_tup {d : D} {c : Cells} {o : Out} (h : iterK d c = some o) : ∃ items c1, o = .ok (.tup items) c1 := by
  cases d <;> first | exact ⟨_, _, (Option.some.inj h).symm⟩ | cases h
theorem ci_seq (C : Cxt S B φ lv X sc N E) {tg l : Expr} {f : SE} (hl : PE X l (tD S E f)) : PI X tg l (tI S E (e1 iterK f)) := by
  refine (pi_seq hl).imp fun σ H R' h => ?_
  refine tI_bind (k := fun _ => iterK) h iterK_tup fun w env d c v H1 items c1 R e dv k q => ?_
  rw [C.hK]
  cases d <;> first | (cases k; done) | skip
  · rename_i xs
    cases k
    simp only [DV] at dv
    obtain ⟨a, vs, h1, h2, h3⟩ := dv
    exact ⟨a, h1, .inr ⟨⟨vs, sqt_mono R.per h2⟩, q w H1 _ (Tr.refl w H1) R (itOk_tup h2 h3)⟩⟩
  · rename_i xs
    cases k
    simp only [DV] at dv
    obtain ⟨a, vs, h1, h2, h3⟩ := dv
    exact ⟨a, h1, .inl ⟨⟨vs, SqL.of (R.per _ _ h2)⟩, q w H1 _ (Tr.refl w H1) R (itOk_list (SqL.of h2) h3)⟩⟩
  · rename_i xs
    cases k
    simp only [DV] at dv
    obtain ⟨a, vs, h1, h2, h3⟩ := dv
    exact ⟨a, h1, .inl ⟨⟨vs, sql_mono R.per h2⟩, q w H1 _ (Tr.refl w H1) R (itOk_list h2 h3)⟩⟩
/-- range(a), range(a, b) -/
def rng1K : D → Cells → Option Out
  | .tup [.int j], c => if decide (-(2 ^ 62) ≤ j) && decide (j < 2 ^ 62) then some (.ok (.tup (rangeD 0 j.toNat)) c) else none
  | _, _ => none
def rng2K : D → Cells → Option Out
  | .tup [.int i, .int j], c => if decide (-(2 ^ 62) ≤ i) && decide (i < 2 ^ 62) && decide (-(2 ^ 62) ≤ j) && decide (j < 2 ^ 62) then some (.ok (.tup (rangeD i (j - i).toNat)) c) else none
  | _, _ => none
theorem tIA_bind {f : SE} {k : Ev → D → Cells → Option Out} {σ : L2.St} {H : Hp} {R' : It → Hp → Prop} {Q' : List V → Hp → Prop} (h : tI S E (fun env c => bindO (f env c) (k env)) σ H R') (hk : ∀ {env d c o}, k env d c = some o → ∃ ds items c1, d = .tup ds ∧ o = .ok (.tup items) c1)
    (q : ∀ w env ds c vs H1 items c1, Rep S w H1 c → EnvR S w env σ → DVs S w ds vs → k env (.tup ds) c = some (.ok (.tup items) c1) → (∀ w1 H2 J, Tr w H1 w1 H2 → Rep S w1 H2 c1 → ItOk S J items w1 → R' J H2) → Q' vs H1) : tA S E f σ H Q' := by
  obtain ⟨w, env, c, o, R, e, hf, hr⟩ := h
  have hf : bindO (f env c) (k env) = some o := hf
  cases hm : f env c with
  | none => rw [hm] at hf; cases hf
  | some m =>
    rw [hm] at hf
    cases m with
    | ok d c1 =>
      have hf : k env d c1 = some o := hf
      obtain ⟨ds, items, c2, rfl, rfl⟩ := hk hf
      exact ⟨w, env, c, _, R, e, hm, fun w1 H1 vs t R1 q1 => q w1 env ds c1 vs H1 items c2 R1 (e.tr t) q1 hf fun w2 H2 J t2 R2 i2 => hr w2 H2 J (t.trans t2) R2 i2⟩
    | exc kk d c1 =>
      have hf' : some (Out.exc kk d c1) = some o := hf
      cases hf'
      exact ⟨w, env, c, _, R, e, hm, hr⟩
theorem rng1K_tup {d : D} {c : Cells} {o : Out} (h : rng1K d c = some o) : ∃ j : Int, d = .tup [.int j] ∧ -(2 ^ 62) ≤ j ∧ j < 2 ^ 62 ∧ o = .ok (.tup (rangeD 0 j.toNat)) c := by
  unfold rng1K at h
  split at h
  · split at h
    · rename_i hz
      simp only [Bool.and_eq_true, decide_eq_true_eq] at hz
      exact ⟨_, rfl, hz.1, hz.2, (Option.some.inj h).symm⟩
    · cases h
  · cases h
theorem rng2K_tup {d : D} {c : Cells} {o : Out} (h : rng2K d c = some o) : ∃ i j : Int, d = .tup [.int i, .int j] ∧ (-(2 ^ 62) ≤ i ∧ i < 2 ^ 62 ∧ -(2 ^ 62) ≤ j ∧ j < 2 ^ 62) ∧ o = .ok (.tup (rangeD i (j - i).toNat)) c := by
  unfold rng2K at h
  split at h
  · split at h
    · rename_i hz
      simp only [Bool.and_eq_true, decide_eq_true_eq] at hz
      exact ⟨_, _, rfl, ⟨hz.1.1.1, hz.1.1.2, hz.1.2, hz.2⟩, (Option.some.inj h).symm⟩
    · cases h
  · cases h
theorem ci_range1 (C : Cxt S B φ lv X sc N E) {tg a : Expr} {f : SE} {p : Pos} (ha : PE X a (tD S E f)) (hg : glB sc "range" = true := by decide +kernel) (hs : starEach [a] X.env = [(false, eval a X.env)] := by rfl) :
    PI X tg (.Call (.Name "range" p) [a] [] pos) (tI S E (e1 rng1K (consA f nilA))) := by
  refine (pi_range1 (gl_of (by rw [C.hs]; exact hg)) C.blt.range (ca_cons ha ca_nil hs) hs).imp fun σ H R' h => ?_
  refine tIA_bind (k := fun _ => rng1K) h (fun h => let ⟨j, h1, _, _, h2⟩ := rng1K_tup h; ⟨_, _, _, h1, h2⟩) fun w env ds c vs H1 items c1 R e dv k q => ?_
  obtain ⟨j, h1, h2, h3, h4⟩ := rng1K_tup k
  cases h1
  cases h4
  obtain ⟨v, rfl, qv⟩ := dvs1 dv
  exact ⟨j, by rw [dv_int qv], h2, h3, q w H1 _ (Tr.refl w H1) R itOk_range⟩
theorem ci_range2 (C : Cxt S B φ lv X sc N E) {tg a b : Expr} {f g : SE} {p : Pos} (ha : PE X a (tD S E f)) (hb : PE X b (tD S E g)) (hg : glB sc "range" = true := by decide +kernel) (hs : starEach [a, b] X.env = [(false, eval a X.env), (false, eval b X.env)] := by rfl) (hs2 : starEach [b] X.env = [(false, eval b X.env)] := by rfl) :
    PI X tg (.Call (.Name "range" p) [a, b] [] pos) (tI S E (e1 rng2K (consA f (consA g nilA)))) := by
  refine (pi_range2 (gl_of (by rw [C.hs]; exact hg)) C.blt.range (ca_cons ha (ca_cons hb ca_nil hs2) (by rw [hs, hs2])) hs hs2).imp fun σ H R' h => ?_
  refine tIA_bind (k := fun _ => rng2K) h (fun h => let ⟨i, j, h1, _, h2⟩ := rng2K_tup h; ⟨_, _, _, h1, h2⟩) fun w env ds c vs H1 items c1 R e dv k q => ?_
  obtain ⟨i, j, h1, h2, h4⟩ := rng2K_tup k
  cases h1
  cases h4
  obtain ⟨v, u, rfl, q1, q2⟩ := dvs2 dv
  exact ⟨i, j, by rw [dv_int q1, dv_int q2], h2, q w H1 _ (Tr.refl w H1) R itOk_range⟩

/-! ### for -/
/-- behind a turn's body: on, out, or away -/
def turnB (o : Option SOut) (k : Ev → Cells → Option SOut) : Option SOut := match o with
  | some (.nx e c) => k e c
  | some (.ct e c) => k e c
  | some (.bk e c) => some (.nx e c)
  | o => o
def forL (tg : Tg) (b : SS) : List D → Ev → Cells → Option SOut
  | [], env, c => some (.nx env c)
  | x :: xs, env, c => match tg x env c with
    | some (e1, c1) => turnB (b e1 c1) (forL tg b xs)
    | none => none
def forK (tg : Tg) (b : SS) (env : Ev) : D → Cells → Option SOut
  | .tup xs, c => forL tg b xs env c
  | _, _ => none
def forS (it : SE) (tg : Tg) (b : SS) : SS := fun e c => bindS (it e c) (forK tg b e)
end
end G
set_option Elab.async false
set_option linter.all false
set_option maxRecDepth 100000
set_option maxHeartbeats 4000000
namespace G
open PySem PySem.Spec PyProof.Rows L2
section
variable {S : Sta} {B : Tabl} {φ : Fns} {lv : Nat} {X : Cx} {sc : Scope} {N : List Str} {E : XK} {pos : Pos}
theorem passesOwn_of (hp : PassesOwn (model X.prog X.w) X.A X.env X.xe) : PassesOwn (model X.prog X.w) X.A X.env X.xe := hp
theorem turn_ok {w : Wd} {H : Hp} {Dn : Ends} {so : Option SOut} {o : SOut} {k : Ev → Cells → Option SOut} {Nx : L2.St → Hp → Prop} (h : turnB so k = some o) (hr : SR S w H Dn E o)
    (next : ∀ e c, k e c = some o → ∀ w' H' σ', Tr w H w' H' → Rep S w' H' c → EnvR S w' e σ' → Nx σ' H') : ∃ o', so = some o' ∧ SR S w H { Dn with nx := Nx, ct := Nx, bk := Dn.nx } E o' := by
  cases so with
  | none => cases h
  | some o' =>
    refine ⟨o', rfl, ?_⟩
    cases o' with
    | nx e c => exact fun w' H' σ' => next e c h w' H' σ'
    | ct e c => exact fun w' H' σ' => next e c h w' H' σ'
    | bk e c => cases h; exact hr
    | ret d c => cases h; exact hr
    | exc k d c => cases h; exact hr
theorem forK_tup {tg : Tg} {b : SS} {env : Ev} {d : D} {c : Cells} {o : SOut} (h : forK tg b env d c = some o) : ∃ items, d = .tup items ∧ forL tg b items env c = some o := by
  cases d with
  | tup items => exact ⟨items, rfl, h⟩
  | _ => cases h
theorem cs_for (C : Cxt S B φ lv X sc N E) {tg iter : Expr} {body : List Stmt} {f : SE} {g : Tg} {b : SS} (hp : PassesOwn (model X.prog X.w) X.A X.env X.xe) (hi : PI X tg iter (tI S E f)) (hg : PG X tg (tG S g)) (hb : PSs X body (tS S E b))
    (hs : ∀ x, foldedSetIterable iter X.env x = pure x := by intro _; rfl) : PS X (.For tg iter body [] pos) (tS S E (forS f g b)) := by
  refine (ps_for hp C.calm hi hg hb hs).imp fun Dn σ H h => ?_
  obtain ⟨w, env, c, o, R, e, hf, hr⟩ := h
  have hf : bindS (f env c) (forK g b env) = some o := hf
  show tI S E f σ H _
  cases hm : f env c with
  | none => rw [hm] at hf; cases hf
  | some m =>
    rw [hm] at hf
    cases m with
    | exc kk d c1 =>
      have hf' : some (SOut.exc kk d c1) = some o := hf
      cases hf'
      exact ⟨w, env, c, _, R, e, hm, hr⟩
    | ok d c1 =>
      have hf : forK g b env d c1 = some o := hf
      obtain ⟨items, rfl, hf⟩ := forK_tup hf
      refine ⟨w, env, c, _, R, e, hm, fun w1 H1 J t1 R1 ok => ?_⟩
      refine ⟨fun i m σ' H' => m = items.length - i ∧ i ≤ items.length ∧ ∃ w' env' c', Tr w1 H1 w' H' ∧ Rep S w' H' c' ∧ EnvR S w' env' σ' ∧ forL g b (items.drop i) env' c' = some o,
        ⟨items.length, by simp, Nat.zero_le _, w1, env, c1, Tr.refl w1 H1, R1, e.tr t1, by rw [List.drop_zero]; exact hf⟩, ?_⟩
      rintro i m σ' H' ⟨rfl, hil, w', env', c', t', R', e', hl⟩
      obtain ⟨k1, k2⟩ := ok w' H' c' t'.ph t'.cs R'
      by_cases hlt : i < items.length
      · right
        have hd : items.drop i = items[i] :: items.drop (i + 1) := List.drop_eq_getElem_cons hlt
        rw [hd] at hl
        obtain ⟨hgo, hy⟩ := k2 i items[i] (by simp [hlt])
        refine ⟨hgo, fun σ2 H2 => ∃ w2 env2 c2, Tr w1 H1 w2 H2 ∧ Rep S w2 H2 c2 ∧ EnvR S w2 env2 σ2 ∧ forL g b (items.drop (i + 1)) env2 c2 = some o, fun σ2 H2 ⟨w2, env2, c2, q⟩ => ⟨_, by omega, rfl, hlt, w2, env2, c2, q⟩, fun x H2 hx => ?_⟩
        obtain ⟨w2, t2, R2, dv⟩ := hy x H2 hx
        simp only [forL] at hl
        split at hl
        · rename_i e1 c2 hg1
          refine ⟨w2, env', c', items[i], e1, c2, R2, e'.tr t2, dv, hg1, fun w3 H3 σ3 t3 R3 er3 => ?_⟩
          have t03 := (t'.trans t2).trans t3
          obtain ⟨o', h1, h2⟩ := turn_ok (Nx := fun σ2 H2 => ∃ w2 env2 c2, Tr w1 H1 w2 H2 ∧ Rep S w2 H2 c2 ∧ EnvR S w2 env2 σ2 ∧ forL g b (items.drop (i + 1)) env2 c2 = some o) hl (hr.tr (t1.trans t03))
            fun e2 c3 hk w4 H4 σ4 t4 R4 er4 => ⟨w4, e2, c3, t03.trans t4, R4, er4, hk⟩
          exact ⟨w3, e1, c2, o', R3, er3, h1, h2⟩
        · cases hl
      · left
        have e0 : items.drop i = [] := List.drop_eq_nil_of_le (Nat.le_of_not_lt hlt)
        rw [e0] at hl
        cases hl
        exact ⟨k1 i (Nat.le_of_not_lt hlt), hr w' H' σ' (t1.trans t') R' e'⟩

/-! ### while -/
def whK (b : SS) (k : Ev → Cells → Option SOut) (env : Ev) : D → Cells → Option SOut
  | .bl true, c => turnB (b env c) k
  | .bl false, c => some (.nx env c)
  | _, _ => none
/-- at most so many turns -/
def whL (t : SE) (b : SS) : Nat → Ev → Cells → Option SOut
  | 0, _, _ => none
  | n + 1, env, c => bindS (t env c) (whK b (whL t b n) env)
def whS (n : Nat) (t : SE) (b : SS) : SS := whL t b n
theorem whK_bl {b : SS} {k : Ev → Cells → Option SOut} {env : Ev} {d : D} {c : Cells} {o : SOut} (h : whK b k env d c = some o) : ∃ x, d = .bl x := by
  cases d <;> first | exact ⟨_, rfl⟩ | cases h
theorem cs_while (n : Nat) {test : Expr} {body : List Stmt} {t : SE} {b : SS} (hp : PassesOwn (model X.prog X.w) X.A X.env X.xe) (ht : PT X test (tT S E t)) (hb : PSs X body (tS S E b)) :
    PS X (.While test body [] pos) (tS S E (whS n t b)) := by
  refine (ps_while hp ht hb).imp fun Dn σ H h => ?_
  obtain ⟨w, env, c, o, R, e, hf, hr⟩ := h
  have hf : whL t b n env c = some o := hf
  refine ⟨fun m σ' H' => ∃ w' env' c', Tr w H w' H' ∧ Rep S w' H' c' ∧ EnvR S w' env' σ' ∧ whL t b m env' c' = some o, ⟨n, w, env, c, Tr.refl w H, R, e, hf⟩, ?_⟩
  rintro m σ' H' ⟨w', env', c', t', R', e', hl⟩
  cases m with
  | zero => cases hl
  | succ m =>
    simp only [whL] at hl
    show tT S E t σ' H' _
    cases hm : t env' c' with
    | none => rw [hm] at hl; cases hl
    | some m1 =>
      rw [hm] at hl
      cases m1 with
      | exc kk d c1 =>
        have hf' : some (SOut.exc kk d c1) = some o := hl
        cases hf'
        exact ⟨w', env', c', _, R', e', hm, fun w4 H4 cls dx t4 => hr w4 H4 cls dx (t'.trans t4)⟩
      | ok d c1 =>
        have hl : whK b (whL t b m) env' d c1 = some o := hl
        obtain ⟨x, rfl⟩ := whK_bl hl
        refine ⟨w', env', c', _, R', e', hm, fun w1 H1 v t1 R1 q1 => ⟨x, dv_bl q1, ?_⟩⟩
        have t01 := t'.trans t1
        cases x with
        | true =>
          have hl : turnB (b env' c1) (whL t b m) = some o := hl
          refine ⟨fun σ2 H2 => ∃ w2 env2 c2, Tr w H w2 H2 ∧ Rep S w2 H2 c2 ∧ EnvR S w2 env2 σ2 ∧ whL t b m env2 c2 = some o, fun σ2 H2 ⟨w2, env2, c2, q⟩ => ⟨m, Nat.lt_succ_self m, w2, env2, c2, q⟩, ?_⟩
          obtain ⟨o', h1, h2⟩ := turn_ok (Nx := fun σ2 H2 => ∃ w2 env2 c2, Tr w H w2 H2 ∧ Rep S w2 H2 c2 ∧ EnvR S w2 env2 σ2 ∧ whL t b m env2 c2 = some o) hl (hr.tr t01)
            fun e2 c3 hk w4 H4 σ4 t4 R4 er4 => ⟨w4, e2, c3, t01.trans t4, R4, er4, hk⟩
          exact ⟨w1, env', c1, o', R1, e'.tr t1, h1, h2⟩
        | false =>
          have hl : some (SOut.nx env' c1) = some o := hl
          cases hl
          exact hr w1 H1 σ' t01 R1 (e'.tr t1)
end
end G
set_option Elab.async false
set_option linter.all false
set_option maxRecDepth 100000
set_option maxHeartbeats 4000000
namespace G
open PySem PySem.Spec PyProof.Rows L2
section
variable {S : Sta} {B : Tabl} {φ : Fns} {lv : Nat} {X : Cx} {sc : Scope} {N : List Str} {E : XK} {pos : Pos}

/-! ### comprehensions -/
/-- nothing may leave -/
def XF : XK := fun _ _ _ => False
def wipeE (env : Ev) : List Nat → Ev
  | [] => env
  | v :: vs => (wipeE env vs).set v none
theorem EnvR.forget {w : Wd} {env : Ev} {σ : L2.St} (e : EnvR S w env σ) (i : Nat) : EnvR S w (env.set i none) (σ.set i none) := by
  refine ⟨by simpa using e.1, fun j d' h => ?_⟩
  by_cases hj : i = j
  · subst hj
    by_cases hi : i < env.length
    · rw [List.getElem?_set_self hi] at h
      cases h
    · rw [List.getElem?_eq_none (by simp; omega)] at h; cases h
  · rw [List.getElem?_set_ne hj] at h ⊢
    exact e.2 j d' h
theorem EnvR.wipe {w : Wd} {env : Ev} {σ : L2.St} (e : EnvR S w env σ) : ∀ vs : List Nat, EnvR S w (wipeE env vs) (L2.wipe σ vs)
  | [] => e
  | v :: vs => (EnvR.wipe e vs).forget v

/-- targets whose names are all the block's -/
def tGW (S : Sta) (vs : List Nat) (tg : Tg) : TG := fun v σ H Q => ∃ w env c d e2 c2, Rep S w H c ∧ EnvR S w env σ ∧ DV S w d v ∧ tg d env c = some (e2, c2) ∧ ∀ w' H' σ', Tr w H w' H' → Rep S w' H' c2 → EnvR S w' e2 σ' → L2.wipe σ' vs = L2.wipe σ vs → Q σ' H'
def tGsW (S : Sta) (vs : List Nat) (tg : Tgs) : TGs := fun us σ H Q => ∃ w env c ds e2 c2, Rep S w H c ∧ EnvR S w env σ ∧ DVs S w ds us ∧ tg ds env c = some (e2, c2) ∧ ∀ w' H' σ', Tr w H w' H' → Rep S w' H' c2 → EnvR S w' e2 σ' → L2.wipe σ' vs = L2.wipe σ vs → Q σ' H'
theorem wipe_len (σ : L2.St) : ∀ vs : List Nat, (L2.wipe σ vs).length = σ.length
  | [] => rfl
  | v :: vs => by show ((L2.wipe σ vs).set v none).length = _; rw [List.length_set, wipe_len σ vs]
theorem wipe_get (σ : L2.St) : ∀ (vs : List Nat) (j : Nat), (L2.wipe σ vs)[j]? = if j ∈ vs then (if j < σ.length then some none else none) else σ[j]?
  | [], j => by simp [L2.wipe]
  | v :: vs, j => by
    show ((L2.wipe σ vs).set v none)[j]? = _
    by_cases h : v = j
    · subst h
      by_cases hl : v < σ.length
      · rw [List.getElem?_set_self (by rw [wipe_len]; exact hl)]
        simp [hl]
      · rw [List.getElem?_eq_none (by simp [wipe_len]; omega)]
        simp [hl]
    · rw [List.getElem?_set_ne h, wipe_get σ vs j]
      simp only [List.mem_cons]
      have : ¬ j = v := fun e => h e.symm
      simp [this]
theorem wipe_set {σ : L2.St} {i : Nat} {x : Option V} {vs : List Nat} (h : i ∈ vs) : L2.wipe (σ.set i x) vs = L2.wipe σ vs := by
  refine List.ext_getElem? fun j => ?_
  rw [wipe_get, wipe_get, List.length_set]
  by_cases hj : j ∈ vs
  · simp [hj]
  · simp only [hj, if_false]
    rw [List.getElem?_set_ne (fun e => hj (by rw [← e]; exact h))]
theorem wipe_wipe (σ : L2.St) (vs : List Nat) : L2.wipe (L2.wipe σ vs) vs = L2.wipe σ vs := by
  refine List.ext_getElem? fun j => ?_
  rw [wipe_get, wipe_get, wipe_len]
  by_cases hj : j ∈ vs
  · simp [hj]
  · simp [hj]
theorem cw_name (C : Cxt S B φ lv X sc N E) (vs : List Nat) (i : Nat) {x : Str} (hi : N[i]? = some x := by rfl) (hl : sc.names.lookup x = some .local := by decide +kernel) (hm : i ∈ vs := by decide) : PG X (.Name x pos) (tGW S vs (nameG i)) := by
  have hl' : X.env.scope.names.lookup x = some .local := by rw [C.hs]; exact hl
  refine (pg_name (i := i) (by rw [C.hN]; exact C.nd) (by rw [C.hN]; exact hi) (.inl hl') (.inr hl')).imp fun v σ H Q ⟨w, env, c, d, e2, c2, R, e, dv, hg, q⟩ => ?_
  cases hg
  exact q w H _ (Tr.refl w H) R (e.set i dv) (wipe_set hm)
theorem cw_nil {vs : List Nat} : PGs X [] (tGsW S vs nilG) := pgs_nil.imp fun us σ H Q ⟨w, env, c, ds, e2, c2, R, e, dv, hg, q⟩ => by
  cases ds with
  | nil =>
    cases hg
    simp only [DVs] at dv
    exact ⟨dv, q w H σ (Tr.refl w H) R e rfl⟩
  | cons d r => cases hg
theorem cw_cons {vs : List Nat} {a : Expr} {es : List Expr} {g : Tg} {h : Tgs} (h1 : PG X a (tGW S vs g)) (h2 : PGs X es (tGsW S vs h)) (hs : (assignEach (a :: es) X.env).map (·.2) = assign a X.env :: (assignEach es X.env).map (·.2) := by rfl) :
    PGs X (a :: es) (tGsW S vs (consG g h)) := (pgs_cons h1 h2 hs).imp fun us σ H Q ⟨w, env, c, ds, e2, c2, R, e, dv, hg, q⟩ => by
  cases ds with
  | nil => cases hg
  | cons d r =>
    simp only [DVs] at dv
    obtain ⟨v, us, rfl, dv1, dv2⟩ := dv
    simp only [consG] at hg
    split at hg
    · rename_i e1 c1 he
      exact ⟨v, us, rfl, w, env, c, d, e1, c1, R, e, dv1, he, fun w' H' σ' t R' er hw => ⟨w', e1, c1, r, e2, c2, R', er, dv2.tr t, hg, fun w2 H2 σ2 t2 R2 er2 hw2 => q w2 H2 σ2 (t.trans t2) R2 er2 (hw2.trans hw)⟩⟩
    · cases hg
theorem cw_tup (C : Cxt S B φ lv X sc N E) {vs : List Nat} {es : List Expr} {k n : Nat} {h : Tgs} (hg : PGs X es (tGsW S vs h)) (hn : (assignEach es X.env).length = n := by rfl) (hst : (assignEach es X.env).findIdx? (·.1) = none := by rfl) :
    PG X (.Tuple es k pos) (tGW S vs (tupG n h)) := (pg_tup C.calm hg hn hst).imp fun v σ H Q ⟨w, env, c, d, e2, c2, R, e, dv, hg, q⟩ => by
  cases d with
  | tup ds =>
    simp only [tupG] at hg
    split at hg
    · rename_i hl
      obtain ⟨a, us, h1, h2, h3⟩ := dv_tup R dv
      rw [C.hK]
      exact ⟨a, us, h1, h2, by rw [← h3.length]; exact hl, w, env, c, ds, e2, c2, R, e, h3, hg, q⟩
    · cases hg
  | _ => cases hg

def yesE : SE := cE (.bl true)
theorem cts_nil : PTs X [] (tT S E yesE) := ⟨fun pins s σ H Q I ⟨w, env, c, o, R, e, hf, hr⟩ => (pts_nil (X := X)).run pins s σ H Q I (by
  cases hf
  obtain ⟨b, e1, q1⟩ := RE.now R dvBl hr
  cases e1
  exact q1)⟩
theorem cts_one {e : Expr} {f : SE} (h : PT X e (tT S E f)) : PTs X [e] (tT S E f) := pts_one h

/-- the block's context -/
theorem Cxt.blk (C : Cxt S B φ lv X sc N E) {scope : Scope} {s : Shared} {H : Hp} {D : Addr} {cl : List (Str × Addr)} {fp : List Addr} : Cxt S B φ lv (X.blk s H scope (compEnvC scope cl D X.env) fp) (relS scope sc) N XF where
  hK := C.hK
  hN := C.hN
  nd := C.nd
  hs := by show (compEnvC scope cl D X.env).scope = _; rw [← C.hs]; rfl
  calm := C.calm
  tk := fun u s' ⟨a, B, sI, pins, σ, H, cls, d, e, I, nb, up, sky, na, os, ag, w⟩ => w
  room := C.room
  grd := C.grd
  blt := C.blt
  fn := C.fn
  ct := C.ct
  bi := C.bi
  fv := C.fv

/-- one turn -/
def lcStep (tg : Tg) (tt el : SE) (envw : Ev) (x : D) (acc : List D) (c : Cells) : Option (List D × Cells) := match tg x envw c with
  | some (e1, c1) => (match tt e1 c1 with
    | some (.ok (.bl true) c2) => (match el e1 c2 with
      | some (.ok y c3) => if sz acc.length then some (acc ++ [y], c3) else none
      | _ => none)
    | some (.ok (.bl false) c2) => some (acc, c2)
    | _ => none)
  | none => none
def lcL (tg : Tg) (tt el : SE) (envw : Ev) : List D → List D → Cells → Option (List D × Cells)
  | [], acc, c => some (acc, c)
  | x :: xs, acc, c => match lcStep tg tt el envw x acc c with
    | some (acc1, c1) => lcL tg tt el envw xs acc1 c1
    | none => none
/-- the list is kept, or may change -/
def endL (acc : List D) (c : Cells) : Option Out := some (.ok (.lst acc) c)
def endN (acc : List D) (c : Cells) : Option Out := some (.ok (.cell c.length) (c ++ [acc]))
def lcK (fin : List D → Cells → Option Out) (vs : List Nat) (tg : Tg) (tt el : SE) (env : Ev) : D → Cells → Option Out
  | .tup items, c => match lcL tg tt el (wipeE env vs) items [] c with
    | some (acc, c1) => fin acc c1
    | none => none
  | _, _ => none
def lcE (fin : List D → Cells → Option Out) (vs : List Nat) (it : SE) (tg : Tg) (tt el : SE) : SE := fun env c => bindO (it env c) (lcK fin vs tg tt el env)

theorem Tr.put {w w' : Wd} {H H' : Hp} {D : Addr} {o : HO} (t : Tr w H w' H') (h : H D = none) : Tr w H w' (upd H' D o) where
  ph := t.ph
  nw := t.nw
  cs := t.cs
  csn := t.csn
  keep := fun a u e n tb => by rw [upd_ne (ne_of_none e h)]; exact t.keep a u e n tb
  there := fun a e => by
    by_cases q : a = D
    · subst q; exact absurd h e
    · rw [upd_ne q]; exact t.there a e
theorem Rep.put {w : Wd} {H : Hp} {c : Cells} {D : Addr} {vs us : List V} (R : Rep S w H c) (hp : w.PH D = none) (hc : D ∉ w.cs) (hH : H D = some (.lst us)) : Rep S w (upd H D (.lst vs)) c where
  per := fun b o q => by rw [upd_ne (ne_of_none q hp)]; exact R.per b o q
  len := R.len
  nd := R.nd
  cell := fun m b l' h1 h2 => by
    obtain ⟨q1, us', q2, q3⟩ := R.cell m b l' h1 h2
    have nb : b ≠ D := fun z => hc (by rw [← z]; exact List.mem_of_getElem? h1)
    exact ⟨q1, us', by rw [upd_ne nb]; exact q2, q3⟩
  tab := by
    intro p hpT
    obtain ⟨ps, e1, e2, e3⟩ := R.tab p hpT
    have np : p.1 ≠ D := fun z => by rw [z, hH] at e1; cases e1
    refine ⟨ps, by rw [upd_ne np]; exact e1, e2, fun pos cv hcv => ?_⟩
    obtain ⟨c0, q1, q2⟩ := e3 pos cv hcv
    refine ⟨c0, q1, ?_⟩
    have nc : c0 ≠ D := fun z => by
      rw [z, hH] at q2
      have : HO.lst us = LamX.CodeO D (p.2 pos.line pos.col) := by rw [← z]; exact Option.some.inj (by rw [← z] at q2; exact q2)
      unfold LamX.CodeO at this
      cases this
    rw [upd_ne nc]; exact q2
  tabP := R.tabP
theorem Rep.start {w : Wd} {H : Hp} {c : Cells} {D : Addr} {o : HO} (R : Rep S w H c) (h : H D = none) : Rep S w (upd H D o) c where
  per := fun b u q => by rw [upd_ne (ne_of_none q (R.ph_none h))]; exact R.per b u q
  len := R.len
  nd := R.nd
  cell := fun m b l' h1 h2 => by
    obtain ⟨q1, us', q2, q3⟩ := R.cell m b l' h1 h2
    exact ⟨q1, us', by rw [upd_ne (ne_of_none q2 h)]; exact q2, q3⟩
  tab := tabs_upd R.tab h
  tabP := R.tabP
/-- what has been built stands for good -/
theorem keep_lst {w w' : Wd} {H H' : Hp} {c : Cells} {D : Addr} {vs : List V} (t : Tr w H w' H') (R : Rep S w' H' c) (h0 : H D = none) (hp : w'.PH D = none) (hc : D ∉ w'.cs) (hH : H' D = some (.lst vs)) : Tr w H (w'.lay D (.lst vs)) H' ∧ Rep S (w'.lay D (.lst vs)) H' c := by
  have hm : ∀ a o, w'.PH a = some o → (w'.lay D (.lst vs)).PH a = some o := fun a o e => by
    show upd w'.PH D _ a = _
    rw [upd_ne (ne_of_none e hp)]; exact e
  refine ⟨⟨fun a o e => hm a o (t.ph a o e), fun a o e => ?_, t.cs, t.csn, t.keep, t.there⟩, ⟨fun a o e => ?_, R.len, R.nd, fun n a l h1 h2 => ?_, R.tab, fun q hq => ?_⟩⟩
  · by_cases q : a = D
    · subst q; exact .inr (.inl h0)
    · have e' : upd w'.PH D (.lst vs) a = some o := e
      rw [upd_ne q] at e'; exact t.nw a o e'
  · have e' : upd w'.PH D (.lst vs) a = some o := e
    by_cases q : a = D
    · subst q; rw [upd_same] at e'; cases e'; exact hH
    · rw [upd_ne q] at e'; exact R.per a o e'
  · obtain ⟨q1, us, q2, q3⟩ := R.cell n a l h1 h2
    refine ⟨?_, us, q2, DVs.mono hm ⟨[], by simp [Wd.lay]⟩ _ _ q3⟩
    show upd w'.PH D _ a = none
    rw [upd_ne (fun z => hc (by rw [← z]; exact List.mem_of_getElem? h1))]; exact q1
  · obtain ⟨ps, e1, _⟩ := R.tab q hq
    show upd w'.PH D _ q.1 = none
    rw [upd_ne (fun z => by rw [z, hH] at e1; cases e1)]; exact R.tabP q hq
theorem keep_cell {w w' : Wd} {H H' : Hp} {c : Cells} {D : Addr} {vs : List V} {l : List G.D} (t : Tr w H w' H') (R : Rep S w' H' c) (h0 : H D = none) (hp : w'.PH D = none) (hc : D ∉ w'.cs) (hH : H' D = some (.lst vs)) (hv : DVs S w' l vs) :
    Tr w H ⟨w'.PH, w'.cs ++ [D]⟩ H' ∧ Rep S ⟨w'.PH, w'.cs ++ [D]⟩ H' (c ++ [l]) := by
  have hpre : w'.cs <+: w'.cs ++ [D] := ⟨[D], rfl⟩
  refine ⟨⟨t.ph, t.nw, t.cs.trans hpre, fun a ha => ?_, t.keep, t.there⟩, ⟨R.per, by simp [R.len], ?_, fun n a l' h1 h2 => ?_, R.tab, R.tabP⟩⟩
  · rcases List.mem_append.mp ha with q | q
    · exact t.csn a q
    · rw [List.mem_singleton.mp q]; exact .inr h0
  · exact List.nodup_append.mpr ⟨R.nd, by simp, fun a ha b hb => by rw [List.mem_singleton.mp hb]; exact fun z => hc (by rw [← z]; exact ha)⟩
  · by_cases hn : n < w'.cs.length
    · rw [List.getElem?_append_left hn] at h1
      rw [List.getElem?_append_left (by rw [← R.len]; exact hn)] at h2
      obtain ⟨q1, us, q2, q3⟩ := R.cell n a l' h1 h2
      exact ⟨q1, us, q2, DVs.mono (w := w') (w' := ⟨w'.PH, w'.cs ++ [D]⟩) (fun _ _ z => z) hpre _ _ q3⟩
    · rw [List.getElem?_append_right (Nat.le_of_not_lt hn)] at h1
      rw [List.getElem?_append_right (by rw [← R.len]; exact Nat.le_of_not_lt hn)] at h2
      have hz : n - w'.cs.length = 0 := by
        have := (List.getElem?_eq_some_iff.mp h1).1
        simp at this; omega
      rw [hz] at h1
      rw [← R.len, hz] at h2
      cases h1
      cases h2
      exact ⟨hp, vs, hH, DVs.mono (w := w') (w' := ⟨w'.PH, w'.cs ++ [D]⟩) (fun _ _ z => z) hpre _ _ hv⟩
def FinOk (S : Sta) (fin : List G.D → Cells → Option Out) : Prop := ∀ (w w' : Wd) (H H' : Hp) (c : Cells) (D : Addr) (vs : List V) (l : List G.D) (o : Out) (E : XK) (Q : VK), Tr w H w' H' → Rep S w' H' c → H D = none → w'.PH D = none → D ∉ w'.cs → H' D = some (.lst vs) → DVs S w' l vs → fin l c = some o → RE S w H Q E o → Q (.ref D) H'
theorem finL : FinOk S endL := fun w w' H H' c D vs l o E Q t R h0 hp hc hH hv hf hr => by
  cases hf
  obtain ⟨t', R'⟩ := keep_lst t R h0 hp hc hH
  refine hr _ H' _ t' R' ?_
  simp only [DV]
  refine ⟨D, vs, rfl, by show upd w'.PH D _ D = _; rw [upd_same], DVs.mono (fun a u e => ?_) ⟨[], by simp [Wd.lay]⟩ _ _ hv⟩
  show upd w'.PH D _ a = _
  rw [upd_ne (ne_of_none e hp)]; exact e
theorem finN : FinOk S endN := fun w w' H H' c D vs l o E Q t R h0 hp hc hH hv hf hr => by
  cases hf
  obtain ⟨t', R'⟩ := keep_cell t R h0 hp hc hH hv
  refine hr _ H' _ t' R' ?_
  simp only [DV]
  exact ⟨D, by rw [← R.len]; simp, rfl⟩
theorem lcStep_ok {tg : Tg} {tt el : SE} {envw : Ev} {x : D} {acc acc1 : List D} {c c1 : Cells} (h : lcStep tg tt el envw x acc c = some (acc1, c1)) : ∃ e1 c2, tg x envw c = some (e1, c2) ∧
    ((∃ c3 y, tt e1 c2 = some (.ok (.bl true) c3) ∧ el e1 c3 = some (.ok y c1) ∧ sz acc.length = true ∧ acc1 = acc ++ [y]) ∨ (tt e1 c2 = some (.ok (.bl false) c1) ∧ acc1 = acc)) := by
  unfold lcStep at h
  split at h
  · rename_i e1 c2 h1
    refine ⟨e1, c2, h1, ?_⟩
    split at h
    · rename_i c3 h2
      split at h
      · rename_i y c4 h3
        split at h
        · rename_i h4
          cases h
          exact .inl ⟨c3, y, h2, h3, h4, rfl⟩
        · cases h
      · cases h
    · rename_i c3 h2
      cases h
      exact .inr ⟨h2, rfl⟩
    · cases h
  · cases h
theorem lcK_tup {fin : List D → Cells → Option Out} {vs : List Nat} {tg : Tg} {tt el : SE} {env : Ev} {d : D} {c : Cells} {o : Out} (h : lcK fin vs tg tt el env d c = some o) : ∃ items acc c1, d = .tup items ∧ lcL tg tt el (wipeE env vs) items [] c = some (acc, c1) ∧ fin acc c1 = some o := by
  cases d with
  | tup items =>
    simp only [lcK] at h
    split at h
    · rename_i acc c1 h1
      exact ⟨items, acc, c1, rfl, h1, h⟩
    · cases h
  | _ => cases h

theorem tD_lc {fin : List D → Cells → Option Out} (hfin : FinOk S fin) {vs : List Nat} {it : SE} {tg : Tg} {tt el : SE} {σ : L2.St} {H : Hp} {Q : VK} (h : tD S E (lcE fin vs it tg tt el) σ H Q) : tLc (tI S E it) (tGW S vs tg) (tT S XF tt) (tD S XF el) vs σ H Q := by
  obtain ⟨w, env, c, o, R, e, hf, hr⟩ := h
  have hf : bindO (it env c) (lcK fin vs tg tt el env) = some o := hf
  show tI S E it σ H _
  cases hm : it env c with
  | none => rw [hm] at hf; cases hf
  | some m =>
    rw [hm] at hf
    cases m with
    | exc kk d c1 =>
      have hf' : some (Out.exc kk d c1) = some o := hf
      cases hf'
      exact ⟨w, env, c, _, R, e, hm, hr⟩
    | ok d c1 =>
      have hf : lcK fin vs tg tt el env d c1 = some o := hf
      obtain ⟨items, accF, cF, rfl, hf, hfn⟩ := lcK_tup hf
      refine ⟨w, env, c, _, R, e, hm, fun w1 H1 J t1 R1 ok D hD => ?_⟩
      refine ⟨fun i m H' => m = items.length - i ∧ i ≤ items.length ∧ ∃ w' c' acc us, Tr w1 H1 w' H' ∧ Rep S w' H' c' ∧ H' D = some (.lst us) ∧ DVs S w' acc us ∧ w'.PH D = none ∧ D ∉ w'.cs ∧ lcL tg tt el (wipeE env vs) (items.drop i) acc c' = some (accF, cF),
        ⟨items.length, by simp, Nat.zero_le _, w1, c1, [], [], (Tr.refl w1 H1).put hD, R1.start hD, upd_same, DVs.nil, R1.ph_none hD, R1.cs_ne hD, by rw [List.drop_zero]; exact hf⟩, ?_⟩
      rintro i m H' ⟨rfl, hil, w', c', acc, us, t', R', hH, hv, hp, hc, hl⟩
      obtain ⟨k1, k2⟩ := ok w' H' c' t'.ph t'.cs R'
      by_cases hlt : i < items.length
      · right
        have hd : items.drop i = items[i] :: items.drop (i + 1) := List.drop_eq_getElem_cons hlt
        rw [hd] at hl
        simp only [lcL] at hl
        split at hl
        · rename_i acc1 c2 hst
          obtain ⟨e1, c3, hg, hcase⟩ := lcStep_ok hst
          obtain ⟨hgo, hy⟩ := k2 i items[i] (by simp [hlt])
          refine ⟨hgo, fun H2 => ∃ w2 us2, Tr w1 H1 w2 H2 ∧ Rep S w2 H2 c2 ∧ H2 D = some (.lst us2) ∧ DVs S w2 acc1 us2 ∧ w2.PH D = none ∧ D ∉ w2.cs, fun H2 ⟨w2, us2, q1, q2, q3, q4, q5, q6⟩ => ⟨_, by omega, rfl, hlt, w2, c2, acc1, us2, q1, q2, q3, q4, q5, q6, hl⟩, fun x H2 hx => ?_⟩
          obtain ⟨w2, t2, R2, dv⟩ := hy x H2 hx
          -- what stays of the new list
          have stay : ∀ {wa wb : Wd} {Ha Hb : Hp} {cb : Cells} {us : List V}, Tr wa Ha wb Hb → Rep S wb Hb cb → Ha D = some (.lst us) → wa.PH D = none → D ∉ wa.cs → Hb D = some (.lst us) ∧ wb.PH D = none ∧ D ∉ wb.cs := fun {wa wb Ha Hb cb us} t Rb e1 e2 e3 => by
            have e4 := t.keep D _ e1 e3 (fun ps z => by cases z)
            refine ⟨e4, ?_, fun z => ?_⟩
            · cases q : wb.PH D with
              | none => rfl
              | some u =>
                rcases t.nw D u q with z | z | ⟨ψ, z⟩
                · rw [e2] at z; cases z
                · rw [e1] at z; cases z
                · have e5 := Rb.per D u q
                  rw [e4, z] at e5
                  cases e5
            · rcases t.csn D z with z | z
              · exact e3 z
              · rw [e1] at z; cases z
          have er0 : EnvR S w2 (wipeE env vs) (L2.wipe σ vs) := EnvR.wipe ((e.tr t1).tr (t'.trans t2)) vs
          obtain ⟨s1, s2, s3⟩ := stay t2 R2 hH hp hc
          refine ⟨w2, wipeE env vs, c', items[i], e1, c3, R2, er0, dv, hg, fun w3 H3 σ3 t3 R3 er3 hw3 => ⟨hw3.trans (wipe_wipe σ vs), ?_⟩⟩
          obtain ⟨s4, s5, s6⟩ := stay t3 R3 s1 s2 s3
          rcases hcase with ⟨c4, y, h1, h2, h3, rfl⟩ | ⟨h1, rfl⟩
          · refine ⟨w3, e1, c3, _, R3, er3, h1, fun w4 H4 v4 t4 R4 q4 => ⟨true, dv_bl q4, ?_⟩⟩
            obtain ⟨s7, s8, s9⟩ := stay t4 R4 s4 s5 s6
            refine ⟨w4, e1, c4, _, R4, er3.tr t4, h2, fun w5 H5 v5 t5 R5 q5 => ?_⟩
            obtain ⟨z1, z2, z3⟩ := stay t5 R5 s7 s8 s9
            have hv5 : DVs S w5 acc us := (((hv.tr t2).tr t3).tr t4).tr t5
            refine ⟨us, z1, by rw [← hv.length]; exact sz_lt h3, w5, us ++ [v5], ?_, R5.put z2 z3 z1, upd_same, hv5.append (DVs.cons q5 DVs.nil), z2, z3⟩
            exact ((((t'.trans t2).trans t3).trans t4).trans t5).put hD
          · refine ⟨w3, e1, c3, _, R3, er3, h1, fun w4 H4 v4 t4 R4 q4 => ⟨false, dv_bl q4, ?_⟩⟩
            obtain ⟨s7, s8, s9⟩ := stay t4 R4 s4 s5 s6
            exact ⟨w4, us, ((t'.trans t2).trans t3).trans t4, R4, s7, ((hv.tr t2).tr t3).tr t4, s8, s9⟩
        · cases hl
      · left
        have e0 : items.drop i = [] := List.drop_eq_nil_of_le (Nat.le_of_not_lt hlt)
        rw [e0] at hl
        cases hl
        exact ⟨k1 i (Nat.le_of_not_lt hlt), hfin w1 w' H1 H' _ D us _ o E Q t' R' hD hp hc hH hv hfn (hr.tr t1)⟩
theorem ce_lcF (C : Cxt S B φ lv X sc N E) {fin : List D → Cells → Option Out} (hfin : FinOk S fin) {elt tg iter : Expr} {ifs : List Expr} {scope : Scope} (own : List (Str × Nat)) {it tt el : SE} {g : Tg} (hi : PI X tg iter (tI S E it))
    (hg : ∀ (s : Shared) (H : Hp) (D : Addr) (cl : List (Str × Addr)) (fp : List Addr), PG (X.blk s H scope (compEnvC scope cl D X.env) fp) tg (tGW S (own.map (·.2)) g))
    (ht : ∀ (s : Shared) (H : Hp) (D : Addr) (cl : List (Str × Addr)) (fp : List Addr), PTs (X.blk s H scope (compEnvC scope cl D X.env) fp) ifs (tT S XF tt))
    (he : ∀ (s : Shared) (H : Hp) (D : Addr) (cl : List (Str × Addr)) (fp : List Addr), PE (X.blk s H scope (compEnvC scope cl D X.env) fp) elt (tD S XF el)) (hok : blkC N sc scope own = true := by decide +kernel) (hs : ∀ x, foldedSetIterable iter X.env x = pure x := by intro _; rfl) :
    PE X (.ListComp elt [⟨tg, iter, ifs, 0⟩] scope pos) (tD S E (lcE fin (own.map (·.2)) it g tt el)) :=
  (pe_lc C.calm (by rw [C.hN]; exact C.nd) hi (by rw [C.hN, C.hs]; exact blkOk_by hok) hg ht he hs).imp fun σ H Q h => tD_lc hfin h
end
end G
set_option Elab.async false
set_option linter.all false
set_option maxRecDepth 100000
set_option maxHeartbeats 4000000
namespace G
open PySem PySem.Spec PyProof.Rows L2
section
variable {S : Sta} {B : Tabl} {φ : Fns} {lv : Nat} {X : Cx} {sc : Scope} {N : List Str} {E : XK} {pos : Pos}

/-! ### calls -/
/-- the arguments are as many as wanted -/
def arK (n : Nat) (g : List D → Cells → Option Out) : List D → Cells → Option Out := fun ds c => if ds.length = n then g ds c else none
theorem arK_ok {n : Nat} {g : List D → Cells → Option Out} {ds : List D} {c : Cells} {o : Out} (h : arK n g ds c = some o) : ds.length = n ∧ g ds c = some o := by
  unfold arK at h
  split at h
  · rename_i e; exact ⟨e, h⟩
  · cases h
theorem Cxt.pass (C : Cxt S B φ lv X sc N E) : Passes (L2.CX X.prog X.w) X E := passes_call C.tk fun _ _ _ _ h => h
/-- a def runs, from a body -/
theorem run_g (C : Cxt S B φ lv X sc N E) {f : Addr} {fd : FuncData} {ps : List Str} {g : List D → Cells → Option Out} (F : FnR S X.prog X.w X.K X.mg X.base lv f fd ps g) {pins : List (Addr × Obj)} {σ : L2.St} {H : Hp} {s : Shared} {us us' : List Value} {kw : List (Str × Value)} {vs : List V} {w : Wd} {ds : List D} {c : Cells} {o : Out} {Q : VK}
    (I : Inv X pins σ H s) (hb : BindsTo s fd ⟨us, kw⟩ (ps.zip us')) (r : Vals vs us') (R : Rep S w H c) (dv : DVs S w ds vs) (hl : ds.length = ps.length) (hg : g ds c = some o) (re : RE S w H Q E o) :
    wpAny (model X.prog X.w) X.A (call (.ref f) us kw) (EP X pins σ Q) X.xe s := by
  refine wpAny_call (codeAny_mono (F.run X.A X.stack s H ⟨us, kw⟩ us' vs w ds c o Q E C.room C.grd I.env0 hb r R dv hl hg re) fun z s' hq => ?_)
  match z, hq with
  | .error e, hq => exact C.pass pins σ H s e s' I hq
  | .ok (.ret u), hq => exact I.after hq
/-- the arguments come to a def's call -/
def tGo (S : Sta) (E : XK) (n : Nat) (g : List D → Cells → Option Out) : List V → Hp → VK → Prop := fun vs H Q => ∃ w ds c o, Rep S w H c ∧ DVs S w ds vs ∧ ds.length = n ∧ g ds c = some o ∧ RE S w H Q E o
theorem tGo_of {n : Nat} {g : List D → Cells → Option Out} {f : SE} {σ : L2.St} {H : Hp} {Q : VK} (q : tD S E (bE (arK n g) f) σ H Q) : tA S E f σ H fun vs H1 => tGo S E n g vs H1 Q :=
  tA_bind (k := fun _ => bK (arK n g)) q bK_tup fun w env ds c vs H1 o R er dv k re => by
    obtain ⟨h1, h2⟩ := arK_ok k
    exact ⟨w, ds, c, o, R, dv, h1, h2, re⟩
theorem ce_call (C : Cxt S B φ lv X sc N E) (i : Nat) {x : Str} {ps : List Str} {e : Expr} {es : List Expr} {p : Pos} {f : SE} (ha : PA X (e :: es) (tA S E f)) (hi : B.fns[i]? = some (x, ps) := by rfl) (hg : glB sc x = true := by decide +kernel)
    (hdb : (x == ("__debug__" : Str)) = false := by decide +kernel) (he : starEach (e :: es) X.env = (false, eval e X.env) :: starEach es X.env := by rfl) (hpl : (backTo pos (starEach es X.env)).any (·.1) = false := by rfl) :
    PE X (.Call (.Name x p) (e :: es) [] pos) (tD S E (bE (arK ps.length (φ i)) f)) := by
  have F := C.fn i x ps hi
  obtain ⟨fd, _, _, hb, hf⟩ := F.ok
  refine ⟨fun pins s σ H Q I q => ?_⟩
  refine wpAny_Call_Name_kw (ld_glob I (gl_of (by rw [C.hs]; exact hg)) F.mg ?_ hdb)
  refine PySem.W.callWith_K (h₀ := X.base) I.ok.mod.kin F.kp (thn (ha.run pos pins s σ H _ I (tGo_of q)) fun us s1 ⟨vs, H1, I1, r, w, ds, c, o, R, dv, h1, h2, re⟩ => ⟨I1.kIn, ?_⟩) he hpl
  exact run_g C hf I1 (.of_eq (hb us (by rw [← r.length, ← dv.length]; exact h1))) r R dv h1 h2 re
theorem ce_call0 (C : Cxt S B φ lv X sc N E) (i : Nat) {x : Str} {p : Pos} (hi : B.fns[i]? = some (x, []) := by rfl) (hg : glB sc x = true := by decide +kernel) (hdb : (x == ("__debug__" : Str)) = false := by decide +kernel) :
    PE X (.Call (.Name x p) [] [] pos) (tD S E (bE (φ i) nilA)) := by
  have F := C.fn i x [] hi
  obtain ⟨fd, _, _, hb, hf⟩ := F.ok
  refine ⟨fun pins s σ H Q I ⟨w, env, c, o, R, er, hv, hr⟩ => ?_⟩
  have hv : φ i [] c = some o := hv
  refine wpAny_Call_Name_kw (ld_glob I (gl_of (by rw [C.hs]; exact hg)) F.mg ?_ hdb)
  exact PySem.W.callWith_K0 I.kIn F.kp (run_g C (us := []) hf I (.of_eq (hb [] rfl)) .nil R DVs.nil rfl hv hr)

/-! ### keywords -/
def reo {α : Type} (ix : List Nat) (us ws : List α) : List α := ix.filterMap fun i => (us ++ ws)[i]?
theorem reo_vals {vs zs : List V} {us ws : List Value} (h1 : Vals vs us) (h2 : Vals zs ws) : ∀ ix : List Nat, Vals (reo ix vs zs) (reo ix us ws)
  | [] => .nil
  | i :: ix => by
    have hh : Vals (vs ++ zs) (us ++ ws) := h1.append h2
    have ih := reo_vals h1 h2 ix
    unfold reo at ih ⊢
    rw [List.filterMap_cons, List.filterMap_cons]
    cases e : (vs ++ zs)[i]? with
    | none =>
      have : (us ++ ws)[i]? = none := by
        rw [List.getElem?_eq_none_iff] at e ⊢
        rw [← hh.length]; exact e
      rw [this]
      exact ih
    | some v =>
      obtain ⟨u, hu, r⟩ := hh.get e
      rw [hu]
      exact .cons r ih
theorem reo_dvs {w : Wd} {ds es : List D} {vs zs : List V} (h1 : DVs S w ds vs) (h2 : DVs S w es zs) : ∀ ix : List Nat, DVs S w (reo ix ds es) (reo ix vs zs)
  | [] => DVs.nil
  | i :: ix => by
    have hh : DVs S w (ds ++ es) (vs ++ zs) := h1.append h2
    have ih := reo_dvs h1 h2 ix
    unfold reo at ih ⊢
    rw [List.filterMap_cons, List.filterMap_cons]
    cases e : (ds ++ es)[i]? with
    | none =>
      have : (vs ++ zs)[i]? = none := by
        rw [List.getElem?_eq_none_iff] at e ⊢
        rw [← hh.length]; exact e
      rw [this]
      exact ih
    | some v =>
      obtain ⟨u, hu, r⟩ := hh.get e
      rw [hu]
      exact DVs.cons r ih
/-- the plain def of these parameters -/
def dmy (q : Str) (ps : List Str) : FuncData := { (default : FuncData) with qualname := q, params := { (default : Arguments) with posonlyargs := [], args := ps.map fun x => { (default : Arg) with arg := x }, vararg := none, kwonlyargs := [], kwarg := none }, defaults := .none }
theorem dmy_args {q : Str} {ps : List Str} : (dmy q ps).params.args.map (·.arg) = ps := by
  show (ps.map fun x => ({ (default : Arg) with arg := x } : Arg)).map (·.arg) = ps
  rw [List.map_map]
  exact List.map_id _
theorem KB.same {fd : FuncData} {ps : List Str} (k : KB fd ps) (args : Args) : bindArgs fd args = bindArgs (dmy fd.qualname ps) args := by
  unfold bindArgs
  simp only [k.po, k.ar, k.va, k.ko, k.ka, k.df, dmy_args]
  rfl
theorem pk1 {k : Str} {e : Expr} {f : SE} {kp : Pos} (h : PE X e (tD S E f)) : PK X [⟨some k, e, kp⟩] (tCons (tD S E f) tNil) := pk_cons h pk_nil
/-- the keywords' values -/
theorem ck_nil : PK X [] (tA S E nilA) := ⟨fun pos pins s σ H Q I h => (pk_nil (X := X)).run pos pins s σ H Q I (by
  obtain ⟨w, env, c, o, R, e, hf, hr⟩ := h
  cases hf
  exact hr w H [] (Tr.refl w H) R DVs.nil)⟩
theorem ck_cons {nm : Option Str} {kp : Pos} {e : Expr} {kws : List Keyword} {f g : SE} (ha : PE X e (tD S E f)) (hr : PK X kws (tA S E g)) : PK X (⟨nm, e, kp⟩ :: kws) (tA S E (consA f g)) := ⟨fun pos pins s σ H Q I h =>
  (pk_cons (nm := nm) (kpos := kp) ha hr).run pos pins s σ H Q I (tA_cons h)⟩
def kwK (ix : List Nat) (n m : Nat) (g : List D → Cells → Option Out) (ds : List D) : D → Cells → Option Out
  | .tup es, c => if ds.length = n ∧ es.length = m then g (reo ix ds es) c else none
  | _, _ => none
def kwE (ix : List Nat) (n m : Nat) (g : List D → Cells → Option Out) (f fk : SE) : SE := fun env c => bindO (f env c) fun d c1 => match d with
  | .tup ds => bindO (fk env c1) (kwK ix n m g ds)
  | _ => none
theorem kwK_ok {ix : List Nat} {n m : Nat} {g : List D → Cells → Option Out} {ds : List D} {d : D} {c : Cells} {o : Out} (h : kwK ix n m g ds d c = some o) : ∃ es, d = .tup es ∧ ds.length = n ∧ es.length = m ∧ g (reo ix ds es) c = some o := by
  cases d with
  | tup es =>
    simp only [kwK] at h
    split at h
    · rename_i z; exact ⟨es, rfl, z.1, z.2, h⟩
    · cases h
  | _ => cases h
theorem run_kw (i : Nat) {ps : List Str} (ix : List Nat) (n m : Nat) {Q : VK} {σ : L2.St} {H : Hp} {w : Wd} {env : Ev} {ds : List D} {c : Cells} {vs : List V} {o : Out} {fk : SE}
    (R : Rep S w H c) (er : EnvR S w env σ) (dv : DVs S w ds vs) (hk : bindO (fk env c) (kwK ix n m (φ i) ds) = some o) (re : RE S w H Q E o) (hl : ∀ es : List D, ds.length = n → es.length = m → (reo ix ds es).length = ps.length) :
    tA S E fk σ H fun zs H2 => vs.length = n ∧ zs.length = m ∧ tGo S E ps.length (φ i) (reo ix vs zs) H2 Q := by
  cases hm : fk env c with
  | none => rw [hm] at hk; cases hk
  | some z =>
    rw [hm] at hk
    cases z with
    | exc kk d c1 =>
      have hk' : some (Out.exc kk d c1) = some o := hk
      cases hk'
      exact ⟨w, env, c, _, R, er, hm, re⟩
    | ok d c1 =>
      have hk : kwK ix n m (φ i) ds d c1 = some o := hk
      obtain ⟨es, rfl, l1, l2, l3⟩ := kwK_ok hk
      refine ⟨w, env, c, _, R, er, hm, fun w1 H1 zs t R1 dz => ⟨by rw [← dv.length]; exact l1, by rw [← dz.length]; exact l2, ?_⟩⟩
      exact ⟨w1, _, c1, o, R1, reo_dvs (dv.tr t) dz ix, hl es l1 l2, l3, re.tr t⟩
theorem run_ga (C : Cxt S B φ lv X sc N E) {i : Nat} {f : Addr} {fd : FuncData} {ps ks : List Str} {ix : List Nat} {n : Nat} (F : FnR S X.prog X.w X.K X.mg X.base lv f fd ps (φ i)) (kb : KB fd ps)
    (hb : ∀ (q : Str) (us ws : List Value), us.length = n → ws.length = ks.length → bindArgs (dmy q ps) ⟨us, ks.zip ws⟩ = pure (ps.zip (reo ix us ws))) {pins : List (Addr × Obj)} {σ : L2.St} {H : Hp} {s : Shared} {us ws : List Value} {vs zs : List V} {Q : VK}
    (I : Inv X pins σ H s) (r : Vals vs us) (rz : Vals zs ws) (l1 : vs.length = n) (l2 : zs.length = ks.length) (q : tGo S E ps.length (φ i) (reo ix vs zs) H Q) : wpAny (model X.prog X.w) X.A (call (.ref f) us (ks.zip ws)) (EP X pins σ Q) X.xe s := by
  obtain ⟨w, ds, c, o, R, dv, h1, h2, re⟩ := q
  exact run_g C F I (.of_eq (by rw [kb.same]; exact hb _ us ws (r.length.symm.trans l1) (rz.length.symm.trans l2))) (reo_vals r rz ix) R dv h1 h2 re
/-- f(e, .., k = v, ..) -/
theorem ce_callK (C : Cxt S B φ lv X sc N E) (i : Nat) (ix : List Nat) (n : Nat) {x : Str} {ps ks : List Str} {e : Expr} {es : List Expr} {kws : List Keyword} {p : Pos} {f fk : SE} (ha : PA X (e :: es) (tA S E f)) (hkw : PK X kws (tA S E fk))
    (hb : ∀ (q : Str) (us ws : List Value), us.length = n → ws.length = ks.length → bindArgs (dmy q ps) ⟨us, ks.zip ws⟩ = pure (ps.zip (reo ix us ws)))
    (hl : ∀ (us ws : List D), us.length = n → ws.length = ks.length → (reo ix us ws).length = ps.length)
    (hks : (backToKw pos (keywordEach kws X.env)).filterMap (·.1) = ks := by rfl) (hall : (backToKw pos (keywordEach kws X.env)).all (·.1.isSome) = true := by rfl)
    (hi : B.fns[i]? = some (x, ps) := by rfl) (hg : glB sc x = true := by decide +kernel)
    (hdb : (x == ("__debug__" : Str)) = false := by decide +kernel) (he : starEach (e :: es) X.env = (false, eval e X.env) :: starEach es X.env := by rfl)
    (hpl : ((backTo pos (starEach (e :: es) X.env)).any (·.1) || (backToKw pos (keywordEach kws X.env)).any (·.1.isNone)) = false := by rfl) :
    PE X (.Call (.Name x p) (e :: es) kws pos) (tD S E (kwE ix n ks.length (φ i) f fk)) := by
  have F := C.fn i x ps hi
  obtain ⟨fd, _, kb, _, hf⟩ := F.ok
  refine ⟨fun pins s σ H Q I q => ?_⟩
  have q2 : tA S E f σ H fun vs H1 => tA S E fk σ H1 fun zs H2 => vs.length = n ∧ zs.length = ks.length ∧ tGo S E ps.length (φ i) (reo ix vs zs) H2 Q :=
    tA_bind (k := fun env d c1 => match d with
      | .tup ds => bindO (fk env c1) (kwK ix n ks.length (φ i) ds)
      | _ => none) q (fun {env d c o} h => by cases d <;> first | exact ⟨_, rfl⟩ | cases h) fun w env ds c vs H1 o R er dv k re => run_kw i ix n ks.length R er dv k re fun es h1 h2 => hl ds es h1 h2
  refine wpAny_Call_Name_kw (ld_glob I (gl_of (by rw [C.hs]; exact hg)) F.mg ?_ hdb)
  refine PySem.W.callWith_KW (h₀ := X.base) I.ok.mod.kin F.kp hall (thn (ha.run pos pins s σ H _ I q2) fun us s1 ⟨vs, H1, I1, r, q1⟩ => ?_) hpl he
  refine thn (hkw.run pos pins s1 σ H1 _ I1 q1) fun ws s2 ⟨zs, H2, I2, rz, l1, l2, q3⟩ => ⟨I2.kIn, ?_⟩
  rw [hks]
  exact run_ga C hf kb hb I2 r rz l1 l2 q3
/-- f(k = v, ..) -/
theorem ce_callK0 (C : Cxt S B φ lv X sc N E) (i : Nat) (ix : List Nat) {x : Str} {ps ks : List Str} {kw : Keyword} {kws : List Keyword} {p : Pos} {fk : SE} (hkw : PK X (kw :: kws) (tA S E fk))
    (hb : ∀ (q : Str) (us ws : List Value), us.length = 0 → ws.length = ks.length → bindArgs (dmy q ps) ⟨us, ks.zip ws⟩ = pure (ps.zip (reo ix us ws)))
    (hl : ∀ (us ws : List D), us.length = 0 → ws.length = ks.length → (reo ix us ws).length = ps.length)
    (hks : (backToKw pos (keywordEach (kw :: kws) X.env)).filterMap (·.1) = ks := by rfl) (hall : (backToKw pos (keywordEach (kw :: kws) X.env)).all (·.1.isSome) = true := by rfl)
    (hi : B.fns[i]? = some (x, ps) := by rfl) (hg : glB sc x = true := by decide +kernel)
    (hdb : (x == ("__debug__" : Str)) = false := by decide +kernel) :
    PE X (.Call (.Name x p) [] (kw :: kws) pos) (tD S E (kwE ix 0 ks.length (φ i) nilA fk)) := by
  have F := C.fn i x ps hi
  obtain ⟨fd, _, kb, _, hf⟩ := F.ok
  refine ⟨fun pins s σ H Q I h => ?_⟩
  obtain ⟨w, env, c, o, R, er, hfv, hr⟩ := h
  have hk : bindO (fk env c) (kwK ix 0 ks.length (φ i) []) = some o := hfv
  have q := run_kw (vs := []) (ps := ps) i ix 0 ks.length R er DVs.nil hk hr fun es h1 h2 => hl [] es h1 h2
  refine wpAny_Call_Name_kw (ld_glob I (gl_of (by rw [C.hs]; exact hg)) F.mg ?_ hdb)
  refine PySem.W.callWith_KW0 (h₀ := X.base) I.ok.mod.kin F.kp hall (thn (hkw.run pos pins s σ H _ I q) fun ws s2 ⟨zs, H2, I2, rz, l1, l2, q2⟩ => ⟨I2.kIn, ?_⟩) (by
    show (false || (backToKw pos (keywordEach (kw :: kws) X.env)).any (·.1.isNone)) = false
    rw [Bool.false_or, List.any_eq_false]
    intro z hz
    have hz' := List.all_eq_true.mp hall z hz
    cases hz1 : z.1 with
    | none => rw [hz1] at hz'; cases hz'
    | some y => simp)
  rw [hks]
  exact run_ga C (us := []) (vs := []) hf kb hb I2 .nil rz l1 l2 q2
/-! ### a name that holds a def -/
def fvE (φ : Fns) (i : Nat) (fa : SE) : SE := fun env c => match env[i]? with
  | some (some (.fn k)) => bindO (fa env c) (bK (φ k))
  | _ => none
theorem ce_callV (C : Cxt S B φ lv X sc N E) (i : Nat) {x : Str} {e : Expr} {es : List Expr} {p : Pos} {fa : SE} (ha : PA X (e :: es) (tA S E fa)) (hi : N[i]? = some x := by rfl) (hv : visB sc x = true := by decide +kernel) (hd : (x == ("__debug__" : Str)) = false := by decide +kernel)
    (hcd : (x == ("__classdict__" : Str)) = false := by decide +kernel) (he : starEach (e :: es) X.env = (false, eval e X.env) :: starEach es X.env := by rfl) (hpl : (backTo pos (starEach es X.env)).any (·.1) = false := by rfl) :
    PE X (.Call (.Name x p) (e :: es) [] pos) (tD S E (fvE φ i fa)) := by
  refine ⟨fun pins s σ H Q I h => ?_⟩
  obtain ⟨w, env, c, o, R, er, hf, hr⟩ := h
  unfold fvE at hf
  split at hf
  · rename_i k hk
    obtain ⟨v, h1, h2⟩ := er.2 i _ hk
    simp only [DV] at h2
    obtain ⟨f, rfl⟩ := (C.fv k).ref _ _ h2
    refine wpAny_Call_Name_kw (thn ((pe_var (pos := p) (i := i) (by rw [C.hN]; exact hi) (by rw [C.hs]; exact vis_of hv) hd hcd).run pins s σ H (fun v H1 => v = .ref f ∧ H1 = H) I ⟨.ref f, h1, rfl, rfl⟩) fun u s1 ⟨v, H1, I1, r1, q1⟩ => ?_)
    obtain ⟨ev, eH⟩ := q1
    subst ev
    rw [eH] at I1
    obtain rfl : u = Value.ref f := r1
    have fat : ∀ {s' : Shared} {σ' : L2.St} {H' : Hp} {w' : Wd} {c' : Cells}, Inv X pins σ' H' s' → Rep S w' H' c' → S.F k w'.PH (.ref f) → PySem.W.FnAt f s'.heap := fun {s' σ' H' w' c'} I' R' hF =>
      (C.fv k).fn f H' s'.heap (S.mono k _ _ _ R'.per hF) I'.hok I'.kIn
    refine PySem.W.callWith_F (first := []) (fat I1 R h2) ?_ he hpl
    have ta : tA S E fa σ H fun vs H2 => ∃ w' ds c' o, Rep S w' H2 c' ∧ S.F k w'.PH (.ref f) ∧ DVs S w' ds vs ∧ φ k ds c' = some o ∧ RE S w' H2 Q E o := by
      cases hm : fa env c with
      | none => rw [hm] at hf; cases hf
      | some m =>
        rw [hm] at hf
        cases m with
        | ok d c1 =>
          have hf : bK (φ k) d c1 = some o := hf
          obtain ⟨ds, rfl⟩ := bK_tup hf
          exact ⟨w, env, c, _, R, er, hm, fun w1 H1 vs t R1 q1 => ⟨w1, ds, c1, o, R1, S.mono k _ _ _ t.ph h2, q1, hf, hr.tr t⟩⟩
        | exc kk d c1 =>
          have hf' : some (Out.exc kk d c1) = some o := hf
          cases hf'
          exact ⟨w, env, c, _, R, er, hm, hr⟩
    refine thn (ha.run pos pins s1 σ H _ I1 ta) fun us s2 ⟨vs, H2, I2, r, w2, ds, c2, o2, R2, hF, dv, hg, re⟩ => ⟨fat I2 R2 hF, ?_⟩
    show wpAny _ _ (call (.ref f) us) _ _ _
    refine wpAny_call (codeAny_mono ((C.fv k).run X.A X.stack s2 H2 us vs Q E f C.room C.grd I2.env0 r ⟨w2, ds, c2, o2, R2, hF, dv, hg, re⟩) fun r s' hq => ?_)
    cases r with
    | error e => exact C.pass pins σ H2 s2 e s' I2 hq
    | ok fl =>
      cases fl with
      | ret u => exact I2.after hq
      | next => exact False.elim hq
      | brk => exact False.elim hq
      | cont => exact False.elim hq
  · cases hf
end
end G
set_option Elab.async false
set_option linter.all false
set_option maxRecDepth 100000
set_option maxHeartbeats 4000000
namespace G
open PySem PySem.Spec PyProof.Rows L2

/-! ### what a def gives back -/
mutual
/-- no list that changes, from the n-th on, stands within -/
def okD (n : Nat) : D → Bool
  | .non => true
  | .bl _ => true
  | .int _ => true
  | .str _ => true
  | .tup xs => okDs n xs
  | .lst xs => okDs n xs
  | .scr xs => okDs n xs
  | .cell m => decide (m < n)
  | .fn _ => true
def okDs (n : Nat) : List D → Bool
  | [] => true
  | d :: ds => okD n d && okDs n ds
end
section
variable {S : Sta}
mutual
theorem DV.cut {w w' : Wd} {n : Nat} (h1 : ∀ a o, w.PH a = some o → w'.PH a = some o) (h2 : w.cs.take n <+: w'.cs) : ∀ (d : D) (v : V), okD n d = true → DV S w d v → DV S w' d v
  | .non, v, _, h => by simpa [DV] using h
  | .bl b, v, _, h => by simpa [DV] using h
  | .int i, v, _, h => by simpa [DV] using h
  | .str s, v, _, h => by simpa [DV] using h
  | .tup xs, v, k, h => by
    simp only [okD] at k
    simp only [DV] at h ⊢
    obtain ⟨a, vs, e, q, r⟩ := h
    exact ⟨a, vs, e, sqt_mono h1 q, DVs.cut h1 h2 xs vs k r⟩
  | .lst xs, v, k, h => by
    simp only [okD] at k
    simp only [DV] at h ⊢
    obtain ⟨a, vs, e, q, r⟩ := h
    exact ⟨a, vs, e, h1 _ _ q, DVs.cut h1 h2 xs vs k r⟩
  | .scr xs, v, k, h => by
    simp only [okD] at k
    simp only [DV] at h ⊢
    obtain ⟨a, vs, e, q, r⟩ := h
    exact ⟨a, vs, e, sql_mono h1 q, DVs.cut h1 h2 xs vs k r⟩
  | .cell m, v, k, h => by
    simp only [okD, decide_eq_true_eq] at k
    simp only [DV] at h ⊢
    obtain ⟨a, e, q⟩ := h
    exact ⟨a, pre_get h2 (by rw [List.getElem?_take_of_lt k]; exact e), q⟩
  | .fn k, v, _, h => by
    simp only [DV] at h ⊢
    exact S.mono k _ _ v h1 h
theorem DVs.cut {w w' : Wd} {n : Nat} (h1 : ∀ a o, w.PH a = some o → w'.PH a = some o) (h2 : w.cs.take n <+: w'.cs) : ∀ (ds : List D) (vs : List V), okDs n ds = true → DVs S w ds vs → DVs S w' ds vs
  | [], vs, _, h => by simpa [DVs] using h
  | d :: ds, vs, k, h => by
    simp only [okDs, Bool.and_eq_true] at k
    simp only [DVs] at h ⊢
    obtain ⟨v, r, e, q, t⟩ := h
    exact ⟨v, r, e, DV.cut h1 h2 d v k.1 q, DVs.cut h1 h2 ds r k.2 t⟩
end
/-- the lists that lived in the def alone are forgotten -/
def okC (n : Nat) (c : Cells) : Bool := (c.take n).all fun l => okDs n l
def finF0 (n : Nat) : D → Cells → Option Out
  | .cell m, c => if m < n then (if okC n c then some (.ok (.cell m) (c.take n)) else none) else match c[m]? with
    | some l => if okDs n l && okC n c then some (.ok (.lst l) (c.take n)) else none
    | none => none
  | d, c => if okD n d && okC n c then some (.ok d (c.take n)) else none
/-- no list was made: nothing is looked at -/
def finF (n : Nat) (d : D) (c : Cells) : Option Out := if c.length = n then some (.ok d c) else finF0 n d c
/-- the list given back may change -/
def finC (n : Nat) : D → Cells → Option Out
  | .cell m, c => if m < n then none else match c[m]? with
    | some l => if okDs n l && okC n c then some (.ok (.cell n) (c.take n ++ [l])) else none
    | none => none
  | _, _ => none
theorem cut_rep {w0 w : Wd} {H0 H : Hp} {c : Cells} {n : Nat} (t : Tr w0 H0 w H) (hn : w0.cs.length = n) (R : Rep S w H c) (hc : okC n c = true) : Tr w0 H0 ⟨w.PH, w.cs.take n⟩ H ∧ Rep S ⟨w.PH, w.cs.take n⟩ H (c.take n) ∧ w.cs.take n = w0.cs := by
  have e0 : w.cs.take n = w0.cs := by
    obtain ⟨r, hr⟩ := t.cs
    rw [← hr, ← hn, List.take_left]
  refine ⟨⟨t.ph, t.nw, by show w0.cs <+: w.cs.take n; rw [e0]; exact ⟨[], by simp⟩, fun a ha => by
    have ha : a ∈ w.cs.take n := ha
    rw [e0] at ha; exact .inl ha, t.keep, t.there⟩, ⟨R.per, ?_, ?_, fun m a l h1 h2 => ?_, R.tab, R.tabP⟩, e0⟩
  · show (w.cs.take n).length = _
    rw [List.length_take, List.length_take, R.len]
  · exact R.nd.sublist (List.take_sublist _ _)
  · have hm : m < n := by
      have h1 : (w.cs.take n)[m]? = some a := h1
      have := (List.getElem?_eq_some_iff.mp h1).1
      rw [List.length_take] at this; omega
    have h1 : (w.cs.take n)[m]? = some a := h1
    rw [List.getElem?_take_of_lt hm] at h1 h2
    obtain ⟨q1, vs, q2, q3⟩ := R.cell m a l h1 h2
    refine ⟨q1, vs, q2, DVs.cut (w := w) (w' := ⟨w.PH, w.cs.take n⟩) (n := n) (fun _ _ z => z) ⟨[], by simp⟩ _ _ ?_ q3⟩
    exact List.all_eq_true.mp hc l (List.mem_of_getElem? (by rw [List.getElem?_take_of_lt hm]; exact h2))
def FnFin (S : Sta) (fin : Nat → D → Cells → Option Out) : Prop := ∀ (w0 w : Wd) (H0 H : Hp) (c : Cells) (d : D) (v : V) (o : Out) (E : XK) (Q : VK) (n : Nat), Tr w0 H0 w H → w0.cs.length = n → Rep S w H c → DV S w d v → fin n d c = some o → RE S w0 H0 Q E o → Q v H
theorem fin_plain {w0 w : Wd} {H0 H : Hp} {c : Cells} {d : D} {v : V} {E : XK} {Q : VK} {n : Nat} (t : Tr w0 H0 w H) (hn : w0.cs.length = n) (R : Rep S w H c) (dv : DV S w d v) (h1 : okD n d = true) (h2 : okC n c = true) (hr : RE S w0 H0 Q E (.ok d (c.take n))) : Q v H := by
  obtain ⟨t', R', e⟩ := cut_rep t hn R h2
  exact hr _ H v t' R' (DV.cut (w := w) (w' := ⟨w.PH, w.cs.take n⟩) (n := n) (fun _ _ z => z) ⟨[], by simp⟩ d v h1 dv)
theorem finF_ok : FnFin S finF := fun w0 w H0 H c d v o E Q n t hn R dv hf hr => by
  unfold finF at hf
  split at hf
  · cases hf
    exact hr w H v t R dv
  replace hf : finF0 n d c = some o := hf
  have plain : ∀ d, DV S w d v → (if okD n d && okC n c then some (.ok d (c.take n)) else none) = some o → Q v H := fun d dv h => by
    split at h
    · rename_i z
      simp only [Bool.and_eq_true] at z
      cases h
      exact fin_plain t hn R dv z.1 z.2 hr
    · cases h
  cases d with
  | cell m =>
    simp only [finF0] at hf
    split at hf
    · rename_i hm
      split at hf
      · rename_i z
        cases hf
        exact fin_plain t hn R dv (by simp only [okD]; exact decide_eq_true hm) z hr
      · cases hf
    · rename_i hm
      split at hf
      · rename_i l hl
        split at hf
        · rename_i z
          simp only [Bool.and_eq_true] at z
          cases hf
          simp only [DV] at dv
          obtain ⟨a, e1, rfl⟩ := dv
          obtain ⟨q1, vs, q2, q3⟩ := R.cell m a l e1 hl
          obtain ⟨t', R', e0⟩ := cut_rep t hn R z.2
          have ha : a ∉ w.cs.take n := fun hm' => by
            obtain ⟨j, hj, ej⟩ := List.getElem_of_mem hm'
            have hjn : j < n := by rw [List.length_take] at hj; omega
            obtain ⟨g1, g2⟩ := List.getElem?_eq_some_iff.mp e1
            have : w.cs[j]'(by rw [List.length_take] at hj; omega) = w.cs[m] := by rw [g2, ← ej, List.getElem_take]
            have := (List.getElem_inj R.nd).mp this
            omega
          have h0 : H0 a = none := by
            rcases t.csn a (List.mem_of_getElem? e1) with k | k
            · rw [← e0] at k; exact absurd k ha
            · exact k
          obtain ⟨t2, R2⟩ := keep_lst t' R' h0 q1 ha q2
          refine hr _ H _ t2 R2 ?_
          simp only [DV]
          refine ⟨a, vs, rfl, by show upd w.PH a _ a = _; rw [upd_same], DVs.cut (w := w) (n := n) (fun b u e => ?_) ⟨[], by simp [Wd.lay]⟩ _ _ z.1 q3⟩
          show upd w.PH a _ b = _
          rw [upd_ne (ne_of_none e q1)]; exact e
        · cases hf
      · cases hf
  | non => exact plain _ dv hf
  | bl b => exact plain _ dv hf
  | int b => exact plain _ dv hf
  | str b => exact plain _ dv hf
  | tup b => exact plain _ dv hf
  | lst b => exact plain _ dv hf
  | scr b => exact plain _ dv hf
  | fn b => exact plain _ dv hf
theorem finC_ok : FnFin S finC := fun w0 w H0 H c d v o E Q n t hn R dv hf hr => by
  cases d with
  | cell m =>
    simp only [finC] at hf
    split at hf
    · cases hf
    · rename_i hm
      split at hf
      · rename_i l hl
        split at hf
        · rename_i z
          simp only [Bool.and_eq_true] at z
          cases hf
          simp only [DV] at dv
          obtain ⟨a, e1, rfl⟩ := dv
          obtain ⟨q1, vs, q2, q3⟩ := R.cell m a l e1 hl
          obtain ⟨t', R', e0⟩ := cut_rep t hn R z.2
          have ha : a ∉ w.cs.take n := fun hm' => by
            obtain ⟨j, hj, ej⟩ := List.getElem_of_mem hm'
            have hjn : j < n := by rw [List.length_take] at hj; omega
            obtain ⟨g1, g2⟩ := List.getElem?_eq_some_iff.mp e1
            have : w.cs[j]'(by rw [List.length_take] at hj; omega) = w.cs[m] := by rw [g2, ← ej, List.getElem_take]
            have := (List.getElem_inj R.nd).mp this
            omega
          have h0 : H0 a = none := by
            rcases t.csn a (List.mem_of_getElem? e1) with k | k
            · rw [← e0] at k; exact absurd k ha
            · exact k
          obtain ⟨t2, R2⟩ := keep_cell (l := l) t' R' h0 q1 ha q2 (DVs.cut (w := w) (w' := ⟨w.PH, w.cs.take n⟩) (n := n) (fun _ _ z => z) ⟨[], by simp⟩ _ _ z.1 q3)
          refine hr _ H _ t2 R2 ?_
          simp only [DV]
          refine ⟨a, ?_, rfl⟩
          show (w.cs.take n ++ [a])[n]? = some a
          rw [e0, ← hn]
          simp
        · cases hf
      · cases hf
  | _ => cases hf
end

section
variable {S : Sta} {B : Tabl} {φ : Fns} {lv : Nat} {sc : Scope} {N : List Str} {E : XK} {pos : Pos} {P : Program} {w : World} {K : PySem.W.Frag} {mg : Str → Option Value} {base : Heap}
/-! ### a def by its body -/
def startE (N : List Str) (ds : List D) : Ev := ds.map some ++ List.replicate (N.length - ds.length) none
theorem startE_env {wd : Wd} {ds : List D} {vs : List V} (h : DVs S wd ds vs) : EnvR S wd (startE N ds) (L2.start N vs) := by
  refine ⟨by simp [startE, L2.start, h.length], fun i d e => ?_⟩
  unfold startE at e
  by_cases hi : i < ds.length
  · rw [List.getElem?_append_left (by simpa using hi), List.getElem?_map] at e
    cases hd : ds[i]? with
    | none => rw [hd] at e; cases e
    | some d' =>
      rw [hd] at e
      cases e
      obtain ⟨v, h1, h2⟩ := h.get hd
      refine ⟨v, ?_, h2⟩
      unfold L2.start
      rw [List.getElem?_append_left (by rw [List.length_map, ← h.length]; exact hi), List.getElem?_map, h1]
      rfl
  · rw [List.getElem?_append_right (by simpa using hi), List.getElem?_replicate] at e
    split at e <;> cases e
def runB (fin : Nat → D → Cells → Option Out) (N : List Str) (b : SS) (ds : List D) (c : Cells) : Option Out := match b (startE N ds) c with
  | some (.ret d c1) => fin c.length d c1
  | some (.nx _ c1) => fin c.length .non c1
  | some (.exc k d c1) => if c1.length = c.length then some (.exc k d c1) else if okD c.length d && okC c.length c1 then some (.exc k d (c1.take c.length)) else none
  | _ => none
/-- the body of a def, its end told -/
theorem body_ok {fin : Nat → D → Cells → Option Out} (hfin : FnFin S fin) {b : SS} {wd : Wd} {H : Hp} {ds : List D} {vs : List V} {c : Cells} {o : Out} {Q : VK} (R : Rep S wd H c) (dv : DVs S wd ds vs) (hg : runB fin N b ds c = some o) (hr : RE S wd H Q E o) :
    tS S E b { nx := fun _ H' => Q .non H', rt := Q } (L2.start N vs) H := by
  have hl : wd.cs.length = c.length := R.len
  unfold runB at hg
  split at hg
  · rename_i d c1 e
    exact ⟨wd, _, c, _, R, startE_env dv, e, fun w' H' v t R' q => hfin wd w' H H' c1 d v o E Q c.length t hl R' q hg hr⟩
  · rename_i env c1 e
    exact ⟨wd, _, c, _, R, startE_env dv, e, fun w' H' σ' t R' _ => hfin wd w' H H' c1 .non .non o E Q c.length t hl R' dvNon hg hr⟩
  · rename_i k d c1 e
    split at hg
    · cases hg
      exact ⟨wd, _, c, _, R, startE_env dv, e, fun w' H' cls dx t R' x => hr w' H' cls dx t R' x⟩
    split at hg
    · rename_i z
      simp only [Bool.and_eq_true] at z
      cases hg
      refine ⟨wd, _, c, _, R, startE_env dv, e, fun w' H' cls dx t R' x => ?_⟩
      obtain ⟨t', R2, e0⟩ := cut_rep t hl R' z.2
      refine hr _ H' cls dx t' R2 ?_
      obtain ⟨C, at_, a, v, h1, h2, h3, h4, h5⟩ := x
      exact ⟨C, at_, a, v, h1, h2, h3, h4, DV.cut (w := w') (w' := ⟨w'.PH, w'.cs.take c.length⟩) (n := c.length) (fun _ _ z => z) ⟨[], by simp⟩ d v z.1 h5⟩
    · cases hg
  · cases hg
theorem Gx.cxt (G : Gx S B φ lv P w K mg base) {qual : Str} {f : Addr} {cdv : Value} {A : Around} {outer : List Env} {s : Shared} {H : Hp} (nd : N.Nodup) (hgd : A.guards = some []) (hr : Room lv (A.deeper (envOfC qual sc s.heap.objs.size f cdv))) :
    Cxt S B φ lv (cxOf (L2.CX P w) P w K mg base N qual sc f cdv A outer s H E) sc N E where
  hK := G.hK
  hN := rfl
  nd := nd
  hs := rfl
  calm := rfl
  tk := takes_of rfl rfl rfl rfl
  room := hr
  grd := hgd
  blt := G.blt
  fn := G.fn
  ct := G.ct
  bi := G.bi
  fv := G.fv
/-- THE RULE: a def of the top keeps what its body reckons -/
theorem fnG_of {nm qual : Str} {params : Arguments} {body : List Stmt} {at_ : Str × Option Str} {ps : List Str} {fin : Nat → D → Cells → Option Out} {b : Fns → SS} (hfin : FnFin S fin) (hK : K = S.K) (hmg : mg nm = some (.ref (He.ga S.K nm))) (hat : at_ = (nm, none))
    {fd : FuncData} (F : FunD K nm qual params body sc [] [] (He.fAd K at_) fd) (SC : FnScope N ps sc)
    (hkb : ∀ (kV doc pm : Value) (an : Option Addr) (cdv ct : Value), KB (PySem.W.fnOf nm qual params body sc .none kV doc pm an cdv ct) ps)
    (hbi : ∀ (kV doc pm : Value) (an : Option Addr) (cdv ct : Value) (us : List Value), us.length = ps.length → bindArgs (PySem.W.fnOf nm qual params body sc .none kV doc pm an cdv ct) ⟨us, []⟩ = pure (ps.zip us))
    (G : Gx S B φ lv P w K mg base)
    (hb : ∀ (cdv : Value) (A : Around) (outer : List Env) (s : Shared) (H : Hp) (E : XK), cdv = .ref (He.codeOf K at_) → Cxt S B φ lv (cxOf (L2.CX P w) P w K mg base N qual sc (He.fAd K at_) cdv A outer s H E) sc N E →
      PSs (cxOf (L2.CX P w) P w K mg base N qual sc (He.fAd K at_) cdv A outer s H E) body (tS S E (b φ))) :
    FnG S P w K mg base (runB fin N (b φ)) (lv + 1) nm ps := by
  have ea : He.fAd K at_ = He.ga S.K nm := by rw [hat, hK]; rfl
  have kp := F.kp
  rw [ea] at kp
  obtain ⟨oc, od, dV, kV, doc, pm, an, cdv, ct, osl, rfl, lk, hcd, hD, _⟩ := F.ex
  obtain ⟨c0, hc0⟩ := He.codeIn_ref hcd
  have ec : He.codeOf K at_ = c0 := He.codeOf_eq lk hc0
  have hdV : dV = .none := by
    rcases hD with ⟨_, e⟩ | ⟨e, _⟩
    · exact e
    · exact absurd rfl e
  subst hdV
  refine ⟨hmg, kp, _, ⟨oc, od, osl, by rw [← ea]; exact lk⟩, hkb kV doc pm an cdv ct, hbi kV doc pm an cdv ct, ⟨fun A outer s H args us vs wd ds c o Q E hr hgd e0 hbd r R dv hl hg hre => ?_⟩⟩
  rw [← ea]
  refine LamX.run_ofS lk hcd SC hr e0 hbd r (by rw [← dv.length]; exact hl) fun hr' => ?_
  exact ⟨_, hb cdv A outer s H E (by rw [ec, hc0]) (G.cxt SC.nd hgd hr'), body_ok hfin R dv hg hre⟩
end
end G
set_option Elab.async false
set_option linter.all false
set_option maxRecDepth 100000
set_option maxHeartbeats 4000000
namespace G
open PySem PySem.Spec PyProof.Rows L2

/-! ### a lambda that captures nothing -/
structure LmD where
  qual : Str
  params : Arguments
  body : Expr
  scope : Scope
def LamO (f : Addr) (L : LmD) (c : Addr) : HO := .ext fun h => ∃ (od : Option Addr) (sl : Array (Option Value)) (pm ctv : Value), h.get? f = some (⟨.type "function", od, .func (PySem.W.kla_fn "<lambda>" L.qual L.params L.body L.scope [] pm (.ref c) ctv), sl⟩ : Obj)
def LamV (L : LmD) (H : Hp) (v : V) : Prop := ∃ f c, v = .ref f ∧ H f = some (LamO f L c) ∧ H c = some (LamX.CodeO c L.qual)
theorem LamV.mono {L : LmD} {H H' : Hp} {v : V} (h : ∀ a o, H a = some o → H' a = some o) : LamV L H v → LamV L H' v := fun ⟨f, c, e, h1, h2⟩ => ⟨f, c, e, h _ _ h1, h _ _ h2⟩
def LmD.nf (L : LmD) (c : Addr) : NdefX.NF := ⟨"<lambda>", L.qual, L.params, [], L.scope, [], c⟩
section
variable {S : Sta} {B : Tabl} {φ : Fns} {lv : Nat} {X : Cx} {sc : Scope} {N : List Str} {E : XK} {pos : Pos}
theorem inv_lam {L : LmD} {c' : Addr} {pm ctv : Value} {pins : List (Addr × Obj)} {σ : L2.St} {H : Hp} {s : Shared} {tk : Nat} (I : Inv X pins σ H s) :
    Inv X pins σ (upd H s.heap.objs.size (LamO s.heap.objs.size L c')) { s with heap := s.heap.push ({ cls := .type "function", data := .func (PySem.W.kla_fn "<lambda>" L.qual L.params L.body L.scope [] pm (.ref c') ctv) } : Obj), toks := tk } := by
  have here : (s.heap.push ({ cls := .type "function", data := .func (PySem.W.kla_fn "<lambda>" L.qual L.params L.body L.scope [] pm (.ref c') ctv) } : Obj)).get? s.heap.objs.size = _ := Heap.get?_push_size _ rfl
  refine I.laid (a := s.heap.objs.size) (fun b u eb => Heap.get?_push_of_some _ eb) (Nat.le_refl _) ⟨⟨_, _, pm, ctv, here⟩, ⟨_, here⟩, ?_⟩
  rintro g1 g2 ⟨od, sl, a1, a2, q⟩ stays
  exact ⟨od, sl, a1, a2, stays _ q⟩
theorem cloFrom_nil {cells : List (Str × Addr)} : ∀ {names : List (Str × NameKind)} {acc : List (Str × Addr)}, (names.all fun y => !(y.2 == .free)) = true → cloFrom cells names acc = acc
  | [], _, _ => rfl
  | (n, k) :: r, acc, h => by
    simp only [List.all_cons, Bool.and_eq_true, Bool.not_eq_true'] at h
    show (if k == .free then _ else cloFrom cells r acc) = acc
    rw [h.1]
    exact cloFrom_nil (by simpa using h.2)
/-- what the new heap has over the old one -/
theorem rep_lam {w : Wd} {H H1 : Hp} {c : Cells} {f c' P : Addr} {L : LmD} (R : Rep S w H c) (hP : ∃ ps, H P = some (.tbl ps)) (hPm : w.PH P = none) (hE : ∀ b o, b ≠ P → H b = some o → H1 b = some o) (nn : ∀ b, H1 b = none → H b = none) (hT : NdefX.TabsN S.T H1)
    (hf : H f = none) (nfc : f ≠ c') (h1 : H1 f = some (LamO f L c')) (h2 : H1 c' = some (LamX.CodeO c' L.qual)) :
    Tr w H ⟨upd (upd w.PH f (LamO f L c')) c' (LamX.CodeO c' L.qual), w.cs⟩ H1 ∧ Rep S ⟨upd (upd w.PH f (LamO f L c')) c' (LamX.CodeO c' L.qual), w.cs⟩ H1 c ∧ LamV L (upd (upd w.PH f (LamO f L c')) c' (LamX.CodeO c' L.qual)) (.ref f) := by
  obtain ⟨ps, hP⟩ := hP
  have old : ∀ a o, w.PH a = some o → H1 a = some o := fun a o e => hE a o (fun z => by rw [z, hPm] at e; cases e) (R.per a o e)
  have pf : w.PH f = none := R.ph_none hf
  have new : ∀ a o, upd (upd w.PH f (LamO f L c')) c' (LamX.CodeO c' L.qual) a = some o → w.PH a = some o ∨ (a = f ∧ o = LamO f L c') ∨ (a = c' ∧ o = LamX.CodeO c' L.qual) := fun a o e => by
    by_cases q : a = c'
    · subst q; rw [upd_same] at e; exact .inr (.inr ⟨rfl, (Option.some.inj e).symm⟩)
    · rw [upd_ne q] at e
      by_cases q2 : a = f
      · subst q2; rw [upd_same] at e; exact .inr (.inl ⟨rfl, (Option.some.inj e).symm⟩)
      · rw [upd_ne q2] at e; exact .inl e
  have ph : ∀ a o, w.PH a = some o → upd (upd w.PH f (LamO f L c')) c' (LamX.CodeO c' L.qual) a = some o := fun a o e => by
    by_cases q : a = c'
    · subst q
      have := old a o e
      rw [h2] at this
      rw [upd_same]; exact this
    · rw [upd_ne q, upd_ne (ne_of_none e pf)]; exact e
  have isext : ∀ a o, upd (upd w.PH f (LamO f L c')) c' (LamX.CodeO c' L.qual) a = some o → w.PH a = some o ∨ ∃ ψ, o = .ext ψ := fun a o e => by
    rcases new a o e with q | ⟨_, q⟩ | ⟨_, q⟩
    · exact .inl q
    · exact .inr ⟨_, q⟩
    · exact .inr ⟨_, q⟩
  refine ⟨⟨ph, fun a o e => (isext a o e).elim .inl fun z => .inr (.inr z), ⟨[], by simp⟩, fun a e => .inl e, fun a o e _ nt => ?_, fun a e z => e (nn a z)⟩, ⟨fun a o e => ?_, R.len, R.nd, fun n a l e1 e2 => ?_, hT, fun q hq => ?_⟩, ⟨f, c', rfl, ?_, upd_same⟩⟩
  · exact hE a o (fun z => by rw [z, hP] at e; exact nt ps (Option.some.inj e).symm) e
  · rcases new a o e with q | ⟨q1, q2⟩ | ⟨q1, q2⟩
    · exact old a o q
    · rw [q1, q2]; exact h1
    · rw [q1, q2]; exact h2
  · obtain ⟨q1, us, q2, q3⟩ := R.cell n a l e1 e2
    have z : H1 a = some (.lst us) := hE a _ (fun z => by rw [z, hP] at q2; cases q2) q2
    refine ⟨?_, us, z, DVs.mono (w := w) (w' := ⟨_, w.cs⟩) ph ⟨[], by simp⟩ _ _ q3⟩
    cases e : upd (upd w.PH f (LamO f L c')) c' (LamX.CodeO c' L.qual) a with
    | none => exact e
    | some o =>
      rcases new a o e with y | ⟨y1, y2⟩ | ⟨y1, y2⟩
      · rw [q1] at y; cases y
      · rw [y1, hf] at q2; cases q2
      · rw [y1, h2] at z; cases z
  · obtain ⟨qs, e1, _⟩ := hT q hq
    obtain ⟨qs0, e0, _⟩ := R.tab q hq
    cases e : upd (upd w.PH f (LamO f L c')) c' (LamX.CodeO c' L.qual) q.1 with
    | none => exact e
    | some o =>
      rcases new q.1 o e with y | ⟨y1, y2⟩ | ⟨y1, y2⟩
      · rw [R.tabP q hq] at y; cases y
      · rw [y1, hf] at e0; cases e0
      · rw [y1, h2] at e1; cases e1
  · show upd (upd w.PH f (LamO f L c')) c' (LamX.CodeO c' L.qual) f = _
    rw [upd_ne nfc, upd_same]
/-- all tables tell one name for a place -/
structure LamAt (S : Sta) (X : Cx) (c P : Addr) (nm : Nat → Nat → Str) : Prop where
  tb : LamX.TabB X.base X.mg c P
  code : X.env.code = .ref c
  mem : (P, nm) ∈ S.T
  all : ∀ p ∈ S.T, p.2 = nm
theorem tabsN_snoc {T : List NdefX.NTab} {H : Hp} {P : Addr} {nm : Nat → Nat → Str} {ps : Array Value} {c' : Addr} {q : Str} (hT : NdefX.TabsN T H) (hP : H P = some (.tbl ps)) (hm : (P, nm) ∈ T) (hall : ∀ p ∈ T, p.2 = nm) (hn : nm pos.line pos.col = q) (nC : H c' = none) (nF : c' ≠ P) :
    NdefX.TabsN T (upd (upd H P (.tbl (ps ++ #[rawInt pos.line, rawInt pos.col, .ref c']))) c' (LamX.CodeO c' q)) := by
  have stays : ∀ b o, H b = some o → (∀ qs, o ≠ .tbl qs) → upd (upd H P (.tbl (ps ++ #[rawInt pos.line, rawInt pos.col, .ref c']))) c' (LamX.CodeO c' q) b = some o := fun b o e n => by
    have b1 : b ≠ c' := ne_of_none e nC
    have b2 : b ≠ P := fun z => n ps (by rw [z, hP] at e; exact (Option.some.inj e).symm)
    rw [upd_ne b1, upd_ne b2]; exact e
  have isC : ∀ (c0 : Addr) (q0 : Str) (qs : Array Value), LamX.CodeO c0 q0 ≠ .tbl qs := fun c0 q0 qs z => by unfold LamX.CodeO at z; cases z
  intro p hp
  have e2 := hall p hp
  by_cases hb : p.1 = P
  · obtain ⟨qs, t1, t2, t3⟩ := hT p hp
    rw [hb, hP] at t1
    cases t1
    rw [hb]
    refine ⟨ps ++ #[rawInt pos.line, rawInt pos.col, .ref c'], by rw [upd_ne (fun z => nF z.symm), upd_same], ?_, fun p2 cv h => ?_⟩
    · rw [Array.toList_append]; exact PySem.TriplesOk_snoc _ _ _ _ t2
    · rw [Array.toList_append] at h
      rcases NdefX.among_app2 (c := .ref c') _ t2 h with k | ⟨k1, k2, k3⟩
      · obtain ⟨c0, f1, f2⟩ := t3 p2 cv k
        exact ⟨c0, f1, stays _ _ f2 (isC _ _)⟩
      · refine ⟨c', k1, ?_⟩
        rw [e2, ← k2, ← k3, hn]
        exact upd_same
  · obtain ⟨qs, t1, t2, t3⟩ := hT p hp
    refine ⟨qs, by rw [upd_ne (ne_of_none t1 nC), upd_ne hb]; exact t1, t2, fun p2 cv h => ?_⟩
    obtain ⟨c0, f1, f2⟩ := t3 p2 cv h
    exact ⟨c0, f1, stays _ _ f2 (isC _ _)⟩
/-- the lambda as a value -/
theorem ce_lam {c P : Addr} {nm : Nat → Nat → Str} (LA : LamAt S X c P nm) (k : Nat) {params : Arguments} {body : Expr} {scope : Scope} (hF : ∀ H v, LamV ⟨X.env.qual ++ "<lambda>", params, body, scope⟩ H v → S.F k H v)
    (hn : nm pos.line pos.col = X.env.qual ++ "<lambda>") (hfree : (scope.names.all fun y => !(y.2 == .free)) = true := by decide +kernel) (hdef : defaultsOf params X.env = ([], []) := by rfl) :
    PE X (.Lambda params body scope pos) (tD S E (cE (.fn k))) := by
  refine ⟨fun pins s σ H Q I h => ?_⟩
  obtain ⟨w, env, c0, o, R, er, hf, hr⟩ := h
  cases hf
  obtain ⟨ps, hP, ht, ha⟩ := (show NdefX.TabN H P nm from R.tab _ LA.mem)
  have hPm : w.PH P = none := R.tabP _ LA.mem
  have hP' : s.heap.get? P = some { cls := .none, data := .fields ps } := I.hok P _ hP
  have bP : s.heap.BuiltinsAt X.mg P := LA.tb.bm.keeps I.bk
  have hcl : closureFor scope X.env = pure [] := by
    rw [closure_ok (fun y hy e => by
      have := List.all_eq_true.mp hfree y hy
      rw [e] at this; cases this), cloFrom_nil hfree]
  refine PySem.W.kla_eval hdef ?_
  cases hc : codeAmong pos ps.toList with
  | none =>
    refine PySem.W.kla_makeFunction (mg := X.mg) (c := c) (P := P) (ps := ps) hcl I.ok.glob (I.mod.glob.keeps I.bk) LA.code (LA.tb.code.keeps I.bk) hP' ht hc LA.tb.gP bP fun c' ctv h' tk hx hge hlt hrec htb => ?_
    obtain ⟨c2, oc, vs, t, e2, hoc, hd, hv⟩ := hrec
    cases e2
    have nC : H c' = none := I.hok.fresh hge
    have nCP : c' ≠ P := fun z => by rw [z, hP] at nC; cases nC
    have I1 := LamX.inv_table (t' := s.toks) (more := #[rawInt pos.line, rawInt pos.col, .ref c']) (h' := h') I hP (fun b o hb e => hx b o hb e) htb hge ⟨oc, vs, t, hoc, hd, hv⟩
    have I2 := inv_lam (L := ⟨X.env.qual ++ "<lambda>", params, body, scope⟩) (c' := c') (pm := (X.mg "__name__").getD .none) (ctv := ctv) (tk := tk) I1
    have nF : upd (upd H P (.tbl (ps ++ #[rawInt pos.line, rawInt pos.col, .ref c']))) c' (LamX.CodeO c' (X.env.qual ++ "<lambda>")) h'.objs.size = none := I1.hok.fresh (Nat.le_refl _)
    have nF0 : H h'.objs.size = none := I.hok.fresh (Nat.le_trans hge (Nat.le_of_lt hlt))
    obtain ⟨t1, t2, t3⟩ := rep_lam (L := ⟨X.env.qual ++ "<lambda>", params, body, scope⟩) (c' := c') (H1 := upd (upd (upd H P (.tbl (ps ++ #[rawInt pos.line, rawInt pos.col, .ref c']))) c' (LamX.CodeO c' (X.env.qual ++ "<lambda>"))) h'.objs.size (LamO h'.objs.size ⟨X.env.qual ++ "<lambda>", params, body, scope⟩ c')) R ⟨ps, hP⟩ hPm
      (fun b o nb e => by rw [upd_ne (ne_of_none e nF0), upd_ne (ne_of_none e nC), upd_ne nb]; exact e)
      (fun b e => NdefX.upd_none (NdefX.upd_none (NdefX.upd_none e)))
      ((tabsN_snoc R.tab hP LA.mem LA.all hn nC nCP).ext fun b o e => by rw [upd_ne (ne_of_none e nF)]; exact e)
      nF0 (Nat.ne_of_gt hlt) upd_same (by rw [upd_ne (Nat.ne_of_lt hlt), upd_same])
    exact ⟨.ref h'.objs.size, _, I2, rfl, hr _ _ _ t1 t2 (by simp only [DV]; exact hF _ _ t3)⟩
  | some cv =>
    obtain ⟨c', e, hco⟩ := ha pos cv hc
    subst e
    rw [hn] at hco
    refine PySem.W.kla_makeFunctionHit (mg := X.mg) (c := c) (P := P) (ps := ps) hcl I.ok.glob (I.mod.glob.keeps I.bk) LA.code (LA.tb.code.keeps I.bk) hP' ht hc bP fun ctv h' tk hx hsz => ?_
    have I1 : Inv X pins σ H { s with heap := h', toks := s.toks } := I.kept hx
    have nF : H h'.objs.size = none := I1.hok.fresh (Nat.le_refl _)
    have I2 := inv_lam (L := ⟨X.env.qual ++ "<lambda>", params, body, scope⟩) (c' := c') (pm := (X.mg "__name__").getD .none) (ctv := ctv) (tk := tk) I1
    obtain ⟨t1, t2, t3⟩ := rep_lam (L := ⟨X.env.qual ++ "<lambda>", params, body, scope⟩) (c' := c') (H1 := upd H h'.objs.size (LamO h'.objs.size ⟨X.env.qual ++ "<lambda>", params, body, scope⟩ c')) R ⟨ps, hP⟩ hPm
      (fun b o nb e => by rw [upd_ne (ne_of_none e nF)]; exact e)
      (fun b e => NdefX.upd_none e)
      (R.tab.ext fun b o e => by rw [upd_ne (ne_of_none e nF)]; exact e)
      nF (ne_of_none hco nF).symm upd_same (by rw [upd_ne (ne_of_none hco nF)]; exact hco)
    exact ⟨.ref h'.objs.size, _, I2, rfl, hr _ _ _ t1 t2 (by simp only [DV]; exact hF _ _ t3)⟩
/-- the lambda's call -/
def runL (fin : Nat → D → Cells → Option Out) (N : List Str) (n : Nat) (el : SE) (ds : List D) (c : Cells) : Option Out := if ds.length = n then (match el (startE N ds) c with
  | some (.ok d c1) => fin c.length d c1
  | some (.exc k d c1) => if c1.length = c.length then some (.exc k d c1) else if okD c.length d && okC c.length c1 then some (.exc k d (c1.take c.length)) else none
  | none => none) else none
theorem expr_ok {fin : Nat → D → Cells → Option Out} (hfin : FnFin S fin) {b : SE} {n : Nat} {wd : Wd} {H : Hp} {ds : List D} {vs : List V} {c : Cells} {o : Out} {Q : VK} (R : Rep S wd H c) (dv : DVs S wd ds vs) (hg : runL fin N n b ds c = some o) (hr : RE S wd H Q E o) :
    tD S E b (L2.start N vs) H Q ∧ ds.length = n := by
  have hl : wd.cs.length = c.length := R.len
  unfold runL at hg
  split at hg
  · rename_i hn
    refine ⟨?_, hn⟩
    split at hg
    · rename_i d c1 e
      exact ⟨wd, _, c, _, R, startE_env dv, e, fun w' H' v t R' q => hfin wd w' H H' c1 d v o E Q c.length t hl R' q hg hr⟩
    · rename_i k d c1 e
      split at hg
      · cases hg
        exact ⟨wd, _, c, _, R, startE_env dv, e, fun w' H' cls dx t R' x => hr w' H' cls dx t R' x⟩
      split at hg
      · rename_i z
        simp only [Bool.and_eq_true] at z
        cases hg
        refine ⟨wd, _, c, _, R, startE_env dv, e, fun w' H' cls dx t R' x => ?_⟩
        obtain ⟨t', R2, e0⟩ := cut_rep t hl R' z.2
        refine hr _ H' cls dx t' R2 ?_
        obtain ⟨C, at_, a, v, h1, h2, h3, h4, h5⟩ := x
        exact ⟨C, at_, a, v, h1, h2, h3, h4, DV.cut (w := w') (w' := ⟨w'.PH, w'.cs.take c.length⟩) (n := c.length) (fun _ _ z => z) ⟨[], by simp⟩ d v z.1 h5⟩
      · cases hg
    · cases hg
  · cases hg
end
section
variable {S : Sta} {B : Tabl} {φ : Fns} {lv : Nat} {N : List Str} {P : Program} {w : World} {K : PySem.W.Frag} {mg : Str → Option Value} {base : Heap}
theorem Gx.cxtN (G : Gx S B φ lv P w K mg base) {E : XK} {F : NdefX.NF} {f : Addr} {A : Around} {outer : List Env} {s : Shared} {H : Hp} (nd : N.Nodup) (hgd : A.guards = some []) (hr : Room lv (A.deeper (NdefX.envF F f s.heap.objs.size))) :
    Cxt S B φ lv (NdefX.ncx (L2.CX P w) P w K mg base N F f A outer s H E) F.scope N E where
  hK := G.hK
  hN := rfl
  nd := nd
  hs := rfl
  calm := rfl
  tk := takes_of rfl rfl rfl rfl
  room := hr
  grd := hgd
  blt := G.blt
  fn := G.fn
  ct := G.ct
  bi := G.bi
  fv := G.fv
theorem start_nil {N : List Str} {vs : List V} : NdefX.startF N vs [] = L2.start N vs := by
  unfold NdefX.startF L2.start
  rw [List.nil_append, List.length_nil, Nat.sub_zero]
/-- THE RULE: a lambda by its body -/
theorem fvL_of {fin : Nat → D → Cells → Option Out} (hfin : FnFin S fin) (L : LmD) (k : Nat) {ps : List Str} {el : Fns → SE} (hF : ∀ H v, S.F k H v → LamV L H v) (SC : NdefX.NScope N ps [] L.scope)
    (hbi : ∀ (q : Str) (pm cdv ctv : Value) (us : List Value), us.length = ps.length → bindArgs (PySem.W.kla_fn "<lambda>" L.qual L.params L.body L.scope [] pm cdv ctv) ⟨us, []⟩ = pure (ps.zip us)) (G : Gx S B φ lv P w K mg base)
    (hb : ∀ {X : Cx} {E : XK}, Cxt S B φ lv X L.scope N E → PE X L.body (tD S E (el φ))) : FvOk S P w K mg base (lv + 1) k (runL fin N ps.length (el φ)) where
  ref := fun H v h => let ⟨f, c, e, _⟩ := hF H v h; ⟨f, e⟩
  fn := fun f H h hf hok _ => by
    obtain ⟨f', c, e, h1, _⟩ := hF H _ hf
    cases e
    obtain ⟨⟨od, sl, pm, ctv, q⟩, _, _⟩ := hok f _ h1
    exact ⟨_, od, _, sl, q⟩
  run := fun A outer s H us vs Q E f hr hgd e0 r ⟨wd, ds, c, o, R, hf, dv, hg, re⟩ => by
    obtain ⟨f', c', e, hf1, hf2⟩ := hF _ _ hf
    cases e
    have h1 := R.per _ _ hf1
    have h2 := R.per _ _ hf2
    obtain ⟨⟨od, sl, pm, ctv, ho⟩, _, _⟩ := e0.hok f _ h1
    obtain ⟨ht, hl⟩ := expr_ok hfin R dv hg re
    have lim : s.heap.NoLimit := e0.mod.nolimit.keeps fun b o e => (e0.bs b o e).1
    have lu : us.length = ps.length := by rw [← r.length, ← dv.length]; exact hl
    refine PySem.W.kla_callFunE hr.depth ho rfl SC.co SC.gen rfl (NdefX.codeO_at e0.hok h2) ?_
    rw [hbi default pm _ ctv us lu]
    refine wpAny_pure (wpAny_newFunctionEnv SC.nocell (fun ⟨n, _⟩ hy => SC.par n (List.of_mem_zip hy).1) (fun h₁ hns hsb => ⟨lim.fresh _ hsb, ?_⟩) SC.kind)
    have kp : ∀ b o, s.heap.get? b = some o → h₁.get? b = some o := fun b o e => hsb.extBut b o (Nat.ne_of_lt (Heap.lt_size e)) (Heap.get?_push_of_some _ e)
    have CA : NdefX.CellsAt (L.nf c').cl [] [] s.heap H := ⟨rfl, (fun y c e => nomatch (show (none : Option Addr) = some c from e)), (fun x y c e => nomatch (show (none : Option Addr) = some c from e)), (fun i y e => nomatch (show (none : Option Str) = some y from e))⟩
    have I : Inv (NdefX.ncx (L2.CX P w) P w K mg base N (L.nf c') f A outer s H E) [] (NdefX.startF N vs []) H { s with heap := h₁, toks := s.toks + (ps.zip us).length } := NdefX.inv_startN SC hr.hd e0 (r.length.trans lu) r CA hns kp
    rw [start_nil] at I
    show codeAny _ _ (.expr L.body (NdefX.envF (L.nf c') f s.heap.objs.size)) _ _
    refine PySem.W.kla_codeExpr (wpAny_mono ((hb (G.cxtN (F := L.nf c') SC.nd hgd (hr.deeper _))).run [] _ _ H Q I ht) (fun v s' hq => ?_) fun e s' hq => hq)
    obtain ⟨v', H', J, rv, q⟩ := hq
    exact ⟨v', H', J.os, J.bare, J.base, J.hok, rv, q⟩
/-- a def of the top as a value -/
theorem fvG_of {k : Nat} {nm : Str} {ps : List Str} {g : List D → Cells → Option Out} (hF : ∀ H v, S.F k H v → v = .ref (He.ga S.K nm)) (F : FnG S P w K mg base g lv nm ps) (hl : ∀ ds c o, g ds c = some o → ds.length = ps.length) :
    FvOk S P w K mg base lv k g where
  ref := fun H v h => ⟨_, hF H v h⟩
  fn := fun f H h hf hok hk => by
    cases hF _ _ hf
    obtain ⟨oc, od, fd, sl, e⟩ := F.fl
    exact ⟨oc, od, fd, sl, hk _ _ e⟩
  run := fun A outer s H us vs Q E f hr hgd e0 r ⟨wd, ds, c, o, R, hf, dv, hg, re⟩ => by
    have e := hF _ _ hf
    cases e
    obtain ⟨fd, _, kb, hb, hf⟩ := F.ok
    have l1 := hl _ _ _ hg
    have lu : us.length = ps.length := by rw [← r.length, ← dv.length]; exact l1
    exact hf.run A outer s H ⟨us, []⟩ us vs wd ds c o Q E hr hgd e0 (.of_eq (hb us lu)) r R dv l1 hg re
/-- no such value -/
theorem fvN_of {k : Nat} {g : List D → Cells → Option Out} (hF : ∀ H v, ¬ S.F k H v) : FvOk S P w K mg base lv k g where
  ref := fun H v h => absurd h (hF H v)
  fn := fun f H h hf => absurd hf (hF _ _)
  run := fun A outer s H us vs Q E f hr hgd e0 r ⟨wd, ds, c, o, R, hf, dv, hg, re⟩ => absurd hf (hF _ _)
end
end G
set_option Elab.async false
set_option linter.all false
set_option maxRecDepth 100000
set_option maxHeartbeats 4000000
namespace G
open PySem PySem.Spec PyProof.Rows L2
section
variable {S : Sta} {B : Tabl} {φ : Fns} {lv : Nat} {X : Cx} {sc : Scope} {N : List Str} {E : XK} {pos : Pos}

/-! ### isinstance -/
inductive Ki where
  | int | bl | str | tup | lst
def Ki.nm : Ki → String
  | .int => "int"
  | .bl => "bool"
  | .str => "str"
  | .tup => "tuple"
  | .lst => "list"
def kiD : D → Option String
  | .non => some "NoneType"
  | .bl _ => some "bool"
  | .int _ => some "int"
  | .str _ => some "str"
  | .tup _ => some "tuple"
  | .lst _ => some "list"
  | .scr _ => some "list"
  | .cell _ => some "list"
  | .fn _ => none
def isD : Ki → D → Option Bool
  | _, .fn _ => none
  | .int, .int _ => some true
  | .int, .bl _ => some true
  | .bl, .bl _ => some true
  | .str, .str _ => some true
  | .tup, .tup _ => some true
  | .lst, .lst _ => some true
  | .lst, .scr _ => some true
  | .lst, .cell _ => some true
  | _, _ => some false
theorem kit_tab : (["NoneType", "bool", "int", "str", "tuple", "list"].all fun t => [Ki.int, Ki.bl, Ki.str, Ki.tup, Ki.lst].all fun k => decide (kitB t k.nm = some (decide (t = k.nm) || (decide (t = "bool") && decide (k.nm = "int"))))) = true := by decide +kernel
theorem kit_at {t : String} (ht : t ∈ ["NoneType", "bool", "int", "str", "tuple", "list"]) (k : Ki) : kitB t k.nm = some (decide (t = k.nm) || (decide (t = "bool") && decide (k.nm = "int"))) := by
  have h1 := List.all_eq_true.mp kit_tab t ht
  have h2 := List.all_eq_true.mp h1 k (by cases k <;> simp)
  exact of_decide_eq_true h2
theorem isD_kit : ∀ {k : Ki} {d : D} {b : Bool}, isD k d = some b → ∃ t, kiD d = some t ∧ kitB t k.nm = some b := fun {k d b} h => by
  have go : ∀ t : String, t ∈ ["NoneType", "bool", "int", "str", "tuple", "list"] → (decide (t = k.nm) || (decide (t = "bool") && decide (k.nm = "int"))) = b → kitB t k.nm = some b := fun t ht e => by rw [kit_at ht k, e]
  cases d with
  | fn n => cases k <;> cases h
  | non => exact ⟨_, rfl, go _ (by simp) (by cases k <;> (cases h; rfl))⟩
  | bl x => exact ⟨_, rfl, go _ (by simp) (by cases k <;> (cases h; rfl))⟩
  | int x => exact ⟨_, rfl, go _ (by simp) (by cases k <;> (cases h; rfl))⟩
  | str x => exact ⟨_, rfl, go _ (by simp) (by cases k <;> (cases h; rfl))⟩
  | tup x => exact ⟨_, rfl, go _ (by simp) (by cases k <;> (cases h; rfl))⟩
  | lst x => exact ⟨_, rfl, go _ (by simp) (by cases k <;> (cases h; rfl))⟩
  | scr x => exact ⟨_, rfl, go _ (by simp) (by cases k <;> (cases h; rfl))⟩
  | cell x => exact ⟨_, rfl, go _ (by simp) (by cases k <;> (cases h; rfl))⟩
theorem ty_of {w : Wd} {H : Hp} {c : Cells} {d : D} {v : V} {t : String} (R : Rep S w H c) (h : DV S w d v) (e : kiD d = some t) : TyX S.K H v (.type t) := by
  cases d with
  | non => cases e; rw [dv_non h]; exact .base .non
  | bl b => cases e; rw [dv_bl h]; exact .base (.bl b)
  | int i => cases e; rw [dv_int h]; exact .base (.int i)
  | str x => cases e; rw [dv_str h]; exact .base (.str x)
  | tup xs =>
    cases e
    obtain ⟨a, vs, rfl, q, _⟩ := dv_tup R h
    rcases q with (q | ⟨o, q⟩) | ⟨o, its, n, q1, q2, _⟩
    · exact .base (.tup q)
    · exact .fTuple q
    · exact .kTuple q1 q2
  | lst xs =>
    cases e
    simp only [DV] at h
    obtain ⟨a, vs, rfl, q, _⟩ := h
    exact .base (.lst (R.per _ _ q))
  | scr xs =>
    cases e
    simp only [DV] at h
    obtain ⟨a, vs, rfl, q, _⟩ := h
    rcases sql_mono R.per q with (q | ⟨o, q⟩) | ⟨o, its, n, q1, q2, _⟩
    · exact .base (.lst q)
    · exact .base (.frz q)
    · exact .kList q1 q2
  | cell n =>
    cases e
    simp only [DV] at h
    obtain ⟨a, q1, rfl⟩ := h
    have hn : n < c.length := by rw [← R.len]; exact (List.getElem?_eq_some_iff.mp q1).1
    obtain ⟨_, us, q2, _⟩ := R.cell n a c[n] q1 (by simp [hn])
    exact .base (.lst q2)
  | fn n => cases e
def isiK (k : Ki) : D → Cells → Option Out := fun d c => match isD k d with
  | some b => okb b c
  | none => none
theorem ce_isi (C : Cxt S B φ lv X sc N E) (k : Ki) {a : Expr} {f : SE} {x : Str} {p p2 : Pos} (ha : PE X a (tD S E f)) (hx : bootBuiltins x = some (.type k.nm) := by decide +kernel) (hm : X.mg x = none) (hg : glB sc "isinstance" = true := by decide +kernel) (hgx : glB sc x = true := by decide +kernel)
    (hn : x ≠ "__name__" := by decide +kernel) (hdb : (x == ("__debug__" : Str)) = false := by decide +kernel)
    (hs : starEach [a, .Name x p2] X.env = (false, eval a X.env) :: starEach [.Name x p2] X.env := by rfl) (hs2 : starEach [.Name x p2] X.env = [(false, eval (.Name x p2) X.env)] := by rfl) :
    PE X (.Call (.Name "isinstance" p) [a, .Name x p2] [] pos) (tD S E (e1 (isiK k) f)) := by
  have hT : PE X (.Name x p2) (tC (.ty k.nm)) := pe_bltn (gl_of (by rw [C.hs]; exact hgx)) hm hx rfl hn hdb
  refine (pe_callB call_isi (gl_of (by rw [C.hs]; exact hg)) C.blt.isi PyProof.Rows.boot_isinstance (pa_cons ha (pa_cons hT pa_nil (by rw [hs2]; rfl)) hs) (by decide +kernel) (by decide +kernel) hs (by rw [hs2]; rfl)).imp fun σ H Q q => ?_
  refine tD_bind (g := fun _ => isiK k) q fun w env d c v H1 o R e dv kk re => ?_
  unfold isiK at kk
  split at kk
  · rename_i b hb
    cases kk
    obtain ⟨t, h1, h2⟩ := isD_kit hb
    rw [C.hK]
    exact ⟨v, .ty k.nm, _, .type k.nm, b, rfl, .ty _, ty_of R dv h1, kit_ty h2, RE.now R dvBl re⟩
  · cases kk

/-! ### chains of two comparisons -/
theorem bindO_at {w : Wd} {H : Hp} {c : Cells} {env : Ev} {σ : L2.St} {f : SE} {g : D → Cells → Option Out} {o : Out} {Q Q' : VK} (R : Rep S w H c) (er : EnvR S w env σ) (hf : bindO (f env c) g = some o) (hr : RE S w H Q E o)
    (k : ∀ w1 H1 d c1 v, Tr w H w1 H1 → Rep S w1 H1 c1 → EnvR S w1 env σ → DV S w1 d v → g d c1 = some o → RE S w1 H1 Q E o → Q' v H1) : tD S E f σ H Q' := by
  cases hm : f env c with
  | none => rw [hm] at hf; cases hf
  | some m =>
    rw [hm] at hf
    cases m with
    | ok d c1 => exact ⟨w, env, c, _, R, er, hm, fun w1 H1 v t R1 q => k w1 H1 d c1 v t R1 (er.tr t) q hf (hr.tr t)⟩
    | exc kk d c1 =>
      have hf' : some (Out.exc kk d c1) = some o := hf
      cases hf'
      exact ⟨w, env, c, _, R, er, hm, hr⟩
/-- the first comparison's answer, then the second one -/
def ch2K (op2 : D → D → Cells → Option Out) (fc : SE) (env : Ev) (y : D) : D → Cells → Option Out
  | .bl true, c1 => bindO (fc env c1) fun z c2 => op2 y z c2
  | .bl false, c1 => some (.ok (.bl false) c1)
  | _, _ => none
theorem ch2K_bl {op2 : D → D → Cells → Option Out} {fc : SE} {env : Ev} {y d : D} {c : Cells} {o : Out} (h : ch2K op2 fc env y d c = some o) : ∃ b, d = .bl b := by
  cases d <;> first | exact ⟨_, rfl⟩ | cases h
theorem op2_then {r1 : R2} {op1 : D → D → Cells → Option Out} (h1 : Op2 S E r1 op1) {w : Wd} {H : Hp} {c : Cells} {d e : D} {x y : V} {o : Out} {Q Q' : VK} {g : D → Cells → Option Out} (R : Rep S w H c) (hx : DV S w d x) (hy : DV S w e y) (hf : bindO (op1 d e c) g = some o) (hr : RE S w H Q E o)
    (k : ∀ w1 H1 r c1 v, Tr w H w1 H1 → Rep S w1 H1 c1 → DV S w1 r v → g r c1 = some o → RE S w1 H1 Q E o → Q' v H1) : r1 x y H Q' := by
  cases hm : op1 d e c with
  | none => rw [hm] at hf; cases hf
  | some m =>
    rw [hm] at hf
    cases m with
    | ok r c1 => exact h1 w H c d e x y _ Q' R hx hy hm fun w1 H1 v t R1 q => k w1 H1 r c1 v t R1 q hf (hr.tr t)
    | exc kk d2 c1 =>
      have hf' : some (Out.exc kk d2 c1) = some o := hf
      cases hf'
      exact h1 w H c d e x y _ Q' R hx hy hm hr
def chE (op1 op2 : D → D → Cells → Option Out) (fa fb fc : SE) : SE := fun env c => bindO (fa env c) fun x c1 => bindO (fb env c1) fun y c2 => bindO (op1 x y c2) (ch2K op2 fc env y)
theorem tD_ch {r1 r2 : R2} {op1 op2 : D → D → Cells → Option Out} {fa fb fc : SE} (h1 : Op2 S E r1 op1) (h2 : Op2 S E r2 op2) : ∀ σ H Q, tD S E (chE op1 op2 fa fb fc) σ H Q → tChain r1 r2 (tD S E fa) (tD S E fb) (tD S E fc) σ H Q := fun σ H Q ⟨w, env, c, o, R, er, hf, hr⟩ => by
  show tD S E fa σ H _
  refine bindO_at R er hf hr fun wa Ha d ca x ta Ra ea dx ga ra => ?_
  refine bindO_at Ra ea ga ra fun wb Hb e cb y tb Rb eb dy gb rb => ?_
  refine op2_then h1 Rb (dx.tr tb) dy gb rb fun wc Hc r cc z tc Rc dz gc rc => ?_
  obtain ⟨k, rfl⟩ := ch2K_bl gc
  refine ⟨k, dv_bl dz, ?_⟩
  cases k with
  | false =>
    cases gc
    exact RE.now Rc dvBl rc
  | true =>
    show tD S E fc σ Hc _
    refine bindO_at Rc (eb.tr tc) gc rc fun wd Hd u cd t td Rd ed du gd rd => ?_
    exact h2 wd Hd cd e u y t o Q Rd (dy.tr (tc.trans td)) du gd rd
theorem ce_chain {a b d : Expr} {o1 o2 : CmpOp} {r1 r2 : R2} {op1 op2 : D → D → Cells → Option Out} {fa fb fc : SE} (ho1 : OpR X (compareOp o1) r1) (ho2 : OpR X (compareOp o2) r2) (h1 : Op2 S E r1 op1) (h2 : Op2 S E r2 op2) (ha : PE X a (tD S E fa)) (hb : PE X b (tD S E fb)) (hd : PE X d (tD S E fc))
    (hm : lastMarks [o1, o2] [b, d] = false) : PE X (.Compare a [o1, o2] [b, d] pos) (tD S E (chE op1 op2 fa fb fc)) := (pe_chain ho1 ho2 ha hb hd hm).imp (tD_ch h1 h2)
theorem ct_chain {a b d : Expr} {o1 o2 : CmpOp} {r1 r2 : R2} {op1 op2 : D → D → Cells → Option Out} {fa fb fc : SE} (ho1 : OpR X (compareOp o1) r1) (ho2 : OpR X (compareOp o2) r2) (h1 : Op2 S E r1 op1) (h2 : Op2 S E r2 op2) (ha : PE X a (tD S E fa)) (hb : PE X b (tD S E fb)) (hd : PE X d (tD S E fc))
    (hm : lastMarks [o1, o2] [b, d] = false) : PT X (.Compare a [o1, o2] [b, d] pos) (tT S E (chE op1 op2 fa fb fc)) := (pt_chain ho1 ho2 ha hb hd hm).imp (tT_of (tD_ch h1 h2))
/-- a <= b <= c -/
theorem ce_lele (C : Cxt S B φ lv X sc N E) {a b d : Expr} {fa fb fc : SE} (ha : PE X a (tD S E fa)) (hb : PE X b (tD S E fb)) (hd : PE X d (tD S E fc)) (hm : lastMarks [.LtE, .LtE] [b, d] = false := by with_unfolding_all rfl) : PE X (.Compare a [.LtE, .LtE] [b, d] pos) (tD S E (chE leK leK fa fb fc)) :=
  ce_chain (op_leD C.room.units0) (op_leD C.room.units0) (op2_le C.hK) (op2_le C.hK) ha hb hd hm
theorem ct_lele (C : Cxt S B φ lv X sc N E) {a b d : Expr} {fa fb fc : SE} (ha : PE X a (tD S E fa)) (hb : PE X b (tD S E fb)) (hd : PE X d (tD S E fc)) (hm : lastMarks [.LtE, .LtE] [b, d] = false := by with_unfolding_all rfl) : PT X (.Compare a [.LtE, .LtE] [b, d] pos) (tT S E (chE leK leK fa fb fc)) :=
  ct_chain (op_leD C.room.units0) (op_leD C.room.units0) (op2_le C.hK) (op2_le C.hK) ha hb hd hm

/-! ### what is walked: a text's signs, zip, enumerate -/
def chars (x : Str) : List D := x.cps.toList.map fun c => .str ⟨#[c]⟩
theorem itOk_str {x : Str} {w1 : Wd} : ItOk S (Its x) (chars x) w1 := fun w H c hp hcs R => by
  refine ⟨fun i hi => by show x.cps.size ≤ i; simpa [chars] using hi, fun i d hd => ?_⟩
  have hi : i < x.cps.size := by
    have := (List.getElem?_eq_some_iff.mp hd).1
    simpa [chars] using this
  have e : d = .str ⟨#[x.cps[i]]⟩ := by
    have : (chars x)[i]? = some (.str ⟨#[x.cps[i]]⟩) := by simp [chars, hi]
    rw [this] at hd
    exact (Option.some.inj hd).symm
  subst e
  refine ⟨hi, fun v H' ⟨eH, c0, ec, ev⟩ => ?_⟩
  subst eH ev
  rw [Array.getElem?_eq_getElem hi] at ec
  cases ec
  exact ⟨w, Tr.refl w _, R, dvStr⟩
def strItK : D → Cells → Option Out
  | .str x, c => some (.ok (.tup (chars x)) c)
  | _, _ => none
theorem strItK_ok {d : D} {c : Cells} {o : Out} (h : strItK d c = some o) : ∃ x, d = .str x ∧ o = .ok (.tup (chars x)) c := by
  cases d <;> first | exact ⟨_, rfl, (Option.some.inj h).symm⟩ | cases h
theorem ci_str {tg l : Expr} {f : SE} (hl : PE X l (tD S E f)) : PI X tg l (tI S E (e1 strItK f)) := by
  refine (pi_str hl).imp fun σ H R' h => ?_
  refine tI_bind (k := fun _ => strItK) h (fun h => let ⟨x, _, e⟩ := strItK_ok h; ⟨_, _, e⟩) fun w env d c v H1 items c1 R e dv k q => ?_
  obtain ⟨x, rfl, ek⟩ := strItK_ok k
  cases ek
  exact ⟨x, dv_str dv, q w H1 _ (Tr.refl w H1) R itOk_str⟩
def pairD (a b : D) : D := .tup [a, b]
/-- a new pair is laid -/
theorem lay_pair {w : Wd} {H : Hp} {c : Cells} {T : Addr} {d e : D} {x y : V} (R : Rep S w H c) (hT : H T = none) (hx : DV S w d x) (hy : DV S w e y) : ∃ w', Tr w H w' (upd H T (.tup [x, y])) ∧ Rep S w' (upd H T (.tup [x, y])) c ∧ DV S w' (pairD d e) (.ref T) := by
  have t := Tr.lay (o := .tup [x, y]) hT (R.ph_none hT)
  refine ⟨_, t, R.lay hT, ?_⟩
  simp only [pairD, DV]
  exact ⟨T, [x, y], rfl, .inl (.inl (by show upd w.PH T _ T = _; rw [upd_same])), DVs.cons (hx.tr t) (DVs.cons (hy.tr t) DVs.nil)⟩
def zipD : List D → List D → List D
  | a :: as, b :: bs => pairD a b :: zipD as bs
  | _, _ => []
theorem zipD_len : ∀ (as bs : List D), (zipD as bs).length = min as.length bs.length
  | [], bs => by simp [zipD]
  | a :: as, [] => by simp [zipD]
  | a :: as, b :: bs => by simp only [zipD, List.length_cons, zipD_len as bs]; omega
theorem zipD_get : ∀ {as bs : List D} {i : Nat} {d : D}, (zipD as bs)[i]? = some d → ∃ a b, as[i]? = some a ∧ bs[i]? = some b ∧ d = pairD a b
  | [], bs, i, d, h => by simp [zipD] at h
  | a :: as, [], i, d, h => by simp [zipD] at h
  | a :: as, b :: bs, 0, d, h => by
    simp [zipD] at h
    exact ⟨a, b, by simp, by simp, h.symm⟩
  | a :: as, b :: bs, i + 1, d, h => by
    obtain ⟨x, y, h1, h2, h3⟩ := zipD_get (as := as) (bs := bs) (i := i) (d := d) (by simpa [zipD] using h)
    exact ⟨x, y, by simpa using h1, by simpa using h2, h3⟩
theorem itOk_zipT {a b : Addr} {as bs : List D} {vs us : List V} {w1 : Wd} (h1 : SqT S.K w1.PH a vs) (h2 : SqT S.K w1.PH b us) (d1 : DVs S w1 as vs) (d2 : DVs S w1 bs us) : ItOk S (RZ.ItzT S.K a b) (zipD as bs) w1 := fun w H c hp hcs R => by
  have q1 : SqT S.K H a vs := sqt_mono R.per (sqt_mono hp h1)
  have q2 : SqT S.K H b us := sqt_mono R.per (sqt_mono hp h2)
  have e1 := DVs.mono hp hcs _ _ d1
  have e2 := DVs.mono hp hcs _ _ d2
  refine ⟨fun i hi => ⟨vs, us, q1, q2, ?_⟩, fun i d hd => ?_⟩
  · rw [zipD_len] at hi
    rw [← e1.length, ← e2.length]
    omega
  · obtain ⟨x, y, g1, g2, rfl⟩ := zipD_get hd
    obtain ⟨u, k1, k2⟩ := e1.get g1
    obtain ⟨t, k3, k4⟩ := e2.get g2
    refine ⟨⟨vs, us, u, t, q1, q2, k1, k3⟩, fun v H' ⟨T, x', y', ev, hT, eH, f1, f2⟩ => ?_⟩
    have z1 := f1 vs q1
    have z2 := f2 us q2
    rw [k1] at z1
    rw [k3] at z2
    cases z1
    cases z2
    subst eH ev
    exact lay_pair R hT k2 k4
theorem itOk_zipL {a b : Addr} {as bs : List D} {vs us : List V} {w1 : Wd} (h1 : SqL S.K w1.PH a vs) (h2 : SqL S.K w1.PH b us) (d1 : DVs S w1 as vs) (d2 : DVs S w1 bs us) : ItOk S (Itz S.K a b) (zipD as bs) w1 := fun w H c hp hcs R => by
  have q1 : SqL S.K H a vs := sql_mono R.per (sql_mono hp h1)
  have q2 : SqL S.K H b us := sql_mono R.per (sql_mono hp h2)
  have e1 := DVs.mono hp hcs _ _ d1
  have e2 := DVs.mono hp hcs _ _ d2
  refine ⟨fun i hi => ⟨vs, us, q1, q2, ?_⟩, fun i d hd => ?_⟩
  · rw [zipD_len] at hi
    rw [← e1.length, ← e2.length]
    omega
  · obtain ⟨x, y, g1, g2, rfl⟩ := zipD_get hd
    obtain ⟨u, k1, k2⟩ := e1.get g1
    obtain ⟨t, k3, k4⟩ := e2.get g2
    refine ⟨⟨vs, us, u, t, q1, q2, k1, k3⟩, fun v H' ⟨T, x', y', ev, hT, eH, f1, f2⟩ => ?_⟩
    have z1 := f1 vs q1
    have z2 := f2 us q2
    rw [k1] at z1
    rw [k3] at z2
    cases z1
    cases z2
    subst eH ev
    exact lay_pair R hT k2 k4
/-- a list that stands still -/
def stillL : D → Option (List D)
  | .lst xs => some xs
  | .scr xs => some xs
  | _ => none
def zipK : D → Cells → Option Out
  | .tup [.tup as, .tup bs], c => some (.ok (.tup (zipD as bs)) c)
  | .tup [x, y], c => (match stillL x, stillL y with
    | some as, some bs => some (.ok (.tup (zipD as bs)) c)
    | _, _ => none)
  | _, _ => none
theorem zipK_ok {d : D} {c : Cells} {o : Out} (h : zipK d c = some o) : ∃ x y as bs, d = .tup [x, y] ∧ o = .ok (.tup (zipD as bs)) c ∧ ((x = .tup as ∧ y = .tup bs) ∨ (stillL x = some as ∧ stillL y = some bs)) := by
  unfold zipK at h
  split at h
  · exact ⟨_, _, _, _, rfl, (Option.some.inj h).symm, .inl ⟨rfl, rfl⟩⟩
  · split at h
    · rename_i h1 h2
      exact ⟨_, _, _, _, rfl, (Option.some.inj h).symm, .inr ⟨h1, h2⟩⟩
    · cases h
  · cases h
theorem still_ok {w : Wd} {d : D} {v : V} {xs : List D} (h : DV S w d v) (e : stillL d = some xs) : ∃ a vs, v = .ref a ∧ SqL S.K w.PH a vs ∧ DVs S w xs vs := by
  cases d with
  | lst ys =>
    cases e
    simp only [DV] at h
    obtain ⟨a, vs, h1, h2, h3⟩ := h
    exact ⟨a, vs, h1, SqL.of h2, h3⟩
  | scr ys =>
    cases e
    simp only [DV] at h
    exact h
  | _ => cases e
theorem ci_zip (C : Cxt S B φ lv X sc N E) {elts : List Expr} {kk : Nat} {tpos p : Pos} {a b : Expr} {f g : SE} (ha : PE X a (tD S E f)) (hb : PE X b (tD S E g)) (hg : glB sc "zip" = true := by decide +kernel) (hs : starEach [a, b] X.env = (false, eval a X.env) :: starEach [b] X.env := by rfl) (hs2 : starEach [b] X.env = [(false, eval b X.env)] := by rfl)
    (hpl : (backTo pos (starEach [b] X.env)).any (·.1) = false := by rfl) : PI X (.Tuple elts kk tpos) (.Call (.Name "zip" p) [a, b] [] pos) (tI S E (e1 zipK (consA f (consA g nilA)))) := by
  refine (RZ.pi_zipA (gl_of (by rw [C.hs]; exact hg)) C.blt.zip (ca_cons ha (ca_cons hb ca_nil hs2) hs) hs hpl).imp fun σ H R' h => ?_
  refine tIA_bind (k := fun _ => zipK) h (fun h => let ⟨x, y, as, bs, h1, h2, _⟩ := zipK_ok h; ⟨_, _, _, h1, h2⟩) fun w env ds c vs H1 items c1 R e dv k q => ?_
  obtain ⟨x, y, as, bs, h1, h2, h3⟩ := zipK_ok k
  cases h1
  cases h2
  obtain ⟨v, u, rfl, q1, q2⟩ := dvs2 dv
  rw [C.hK]
  rcases h3 with ⟨rfl, rfl⟩ | ⟨k1, k2⟩
  · simp only [DV] at q1 q2
    obtain ⟨a1, vs, rfl, g1, g2⟩ := q1
    obtain ⟨a2, us, rfl, g3, g4⟩ := q2
    exact ⟨a1, a2, vs, us, rfl, .inr ⟨sqt_mono R.per g1, sqt_mono R.per g3, q w H1 _ (Tr.refl w H1) R (itOk_zipT g1 g3 g2 g4)⟩⟩
  · obtain ⟨a1, vs, rfl, g1, g2⟩ := still_ok q1 k1
    obtain ⟨a2, us, rfl, g3, g4⟩ := still_ok q2 k2
    exact ⟨a1, a2, vs, us, rfl, .inl ⟨sql_mono R.per g1, sql_mono R.per g3, q w H1 _ (Tr.refl w H1) R (itOk_zipL g1 g3 g2 g4)⟩⟩
end
end G
set_option Elab.async false
set_option linter.all false
set_option maxRecDepth 100000
set_option maxHeartbeats 4000000
namespace G
open PySem PySem.Spec PyProof.Rows L2

/-! ### enumerate of a tuple -/
/-- the iterator over a tuple, then the object that counts -/
abbrev enIt (t : Addr) : Obj := { cls := .type "tuple_iterator", data := .fields #[.ref t, .int 0 0] }
abbrev enOb (it : Addr) : Obj := { cls := .type "enumerate", data := .fields #[.none, .bool false, .ref it, rawInt 0, .none, .none] }
set_option maxHeartbeats 4000000 in
theorem meets_enumT (t : Addr) (items : Array Value) : Meets (Builtin.«enumerate.__new__» ⟨[.type "enumerate", .ref t], []⟩) (fun _ R s => s.heap.IsTuple t items ∧
    R (.ok (.ret (.ref (s.heap.push (enIt t)).objs.size))) { s with heap := (s.heap.push (enIt t)).push (enOb s.heap.objs.size) }) :=
  .of_wp fun prog w A R s hh => by
    obtain ⟨hp, g1, g2, g3, g4⟩ := s
    obtain ⟨hT, hh⟩ := hh
    have hsub := sub_enumerate
    have itr : ∀ {A1 : Around} {E1 : Value → Shared → Prop} {Q1 : Value → Shared → Prop}, Q1 (.ref hp.objs.size) ⟨hp.push (enIt t), g1, g2, g3, g4⟩ → wpAny (model prog w) A1 (pyIter (.ref t)) Q1 E1 ⟨hp, g1, g2, g3, g4⟩ := fun q =>
      (begins_tuple t items).iter prog w _ _ ⟨hp, g1, g2, g3, g4⟩ _ hT q
    wp_walk using itr
    refine wpAny_stack_any fun st => wpAny_pure ?_
    split
    · rename_i c _ _ _ _ _
      cases (c == Value.type "enumerate")
      · wp_walk using itr
        exact ⟨_, rfl, hh⟩
      · wp_walk using itr
        exact ⟨_, rfl, hh⟩
    · wp_walk using itr
      exact ⟨_, rfl, hh⟩
theorem call_enumT {prog : Program} {w : World} {A : Around} {E : Value → Shared → Prop} {s : Shared} {t : Addr} {items : Array Value} {Q : Value → Shared → Prop} (hT : s.heap.IsTuple t items)
    (h : ∀ h', IsEnum h' (s.heap.objs.size + 1) s.heap.objs.size 0 .none → h'.IsTupleIter s.heap.objs.size t 0 → h'.objs.size = s.heap.objs.size + 2 → (∀ b o, s.heap.get? b = some o → h'.get? b = some o) → Q (.ref (s.heap.objs.size + 1)) { s with heap := h' }) :
    wpAny (model prog w) A (call (.type "enumerate") [.ref t]) Q E s := by
  refine callType_new F.called_enumerate (by decide) (F.typeCall_enumerate_1 _) (F.newCall_enumerate_1 _) (fun z => F.args_object_init_2 z _) F.entry_enumerate_new (meets_enumT t items) ⟨hT, ?_⟩
  have z1 : (s.heap.push (enIt t)).objs.size = s.heap.objs.size + 1 := Heap.size_push ..
  have z2 : ((s.heap.push (enIt t)).push (enOb s.heap.objs.size)).get? (s.heap.push (enIt t)).objs.size = some (enOb s.heap.objs.size) := Heap.get?_push_size _ rfl
  rw [z1] at z2
  show _ ∧ _
  rw [z1]
  refine ⟨⟨_, z2, rfl⟩, h _ z2 ⟨_, Heap.get?_push_of_some _ (Heap.get?_push_size _ rfl), rfl, rfl⟩ (by rw [Heap.size_push, z1]) fun b o q => Heap.get?_push_of_some _ (Heap.get?_push_of_some _ q)⟩
/-- the tuple at a, each item in a new pair with its number -/
def ItEn (K : PySem.W.Frag) (a : Addr) : It :=
  ⟨fun i H => ∃ (xs : List V) (x : V), SqT K H a xs ∧ xs[i]? = some x, fun i H v H' => ∃ p x, v = .ref p ∧ H p = none ∧ H' = upd H p (.tup [.int (i : Nat), x]) ∧ ∀ xs, SqT K H a xs → xs[i]? = some x, fun i H => ∃ xs : List V, SqT K H a xs ∧ xs.length ≤ i⟩
theorem turn_en {P : Program} {w : World} {K : PySem.W.Frag} {elts : List Expr} {kk : Nat} {tpos : Pos} (a e it : Addr) (hat : a ≠ it) :
    Turn P w K (.Tuple elts kk tpos) (ItEn K a) [e, it] e (fun i h => (∃ old, IsEnum h e it ((i : Nat) : Int) old) ∧ h.IsTupleIter it a i ∧ e ≠ it ∧ a ≠ e) where
  mem := by simp
  obj := fun i h ⟨⟨old, he⟩, ⟨o, ho, hc, hd⟩, _⟩ b hb => by
    rcases (show b = e ∨ b = it by simpa using hb) with rfl | rfl
    · exact ⟨_, he, fun v q => nomatch q⟩
    · exact ⟨o, ho, fun v q => by rw [hd] at q; cases q⟩
  keep := fun i h h' ⟨⟨old, he⟩, hi, r⟩ k => ⟨⟨old, k e (by simp) _ he⟩, hi.at fun o q => k it (by simp) o q, r⟩
  item := by
    intro X hP hw hK hc i pins s σ H E I hf st hg
    subst hP hw hK
    obtain ⟨⟨old, he⟩, hit, hne, hae⟩ := st
    obtain ⟨xs, x, hq, hx⟩ := hg
    obtain ⟨its, rv, p, hz⟩ := I.tuple hq
    have pT : s.heap.IsTuple a its.toArray := p
    obtain ⟨u, hu, ru⟩ := rv.get hx
    have hi : i < its.length := (List.getElem?_eq_some_iff.mp hu).1
    have hel : e < s.heap.objs.size := Heap.lt_size he
    have hil : it < s.heap.objs.size := by obtain ⟨_, q, _⟩ := hit; exact Heap.lt_size q
    have hal : a < s.heap.objs.size := by obtain ⟨_, q, _⟩ := pT; exact Heap.lt_size q
    refine wpAny_pyNext_enum_itemD (i := i) (n := its.toArray.size) (fp := [it, a]) (P := fun i v => its.toArray[i]? = some v) (St := fun i h => h.IsTupleIter it a i ∧ h.IsTuple a its.toArray) (Draws.tuple (A := X.A.in1) (I.ok.hd hc) it a hat its.toArray) he ⟨hit, pT⟩ (by simpa using hi) hne (by simp; exact ⟨hne, fun z => hae z.symm⟩) fun y h1 tk hy ho hst hT hsz hk => ?_
    have eu : y = u := by
      have hy' : its.toArray[i]? = some y := hy
      rw [List.getElem?_toArray, hu] at hy'
      exact (Option.some.inj hy').symm
    subst eu
    refine ⟨_, rfl, wpAny_letOwnedTupleGo_enum (s := { s with heap := h1, toks := tk + 1 }) ho fun h2 he2 sb => ?_⟩
    have hT2 : h2.get? s.heap.objs.size = some { cls := .type "tuple", data := .seq #[.int i tk, y] } := (sb.2 _ (Nat.ne_of_gt hel)).trans hT
    have new : ObjOk X.prog X.w (upd H s.heap.objs.size (.tup [.int (i : Nat), x])) h2 s.heap.objs.size (.tup [.int (i : Nat), x]) :=
      ⟨by show 2 ≤ sizeLine; decide, [.int i tk, y], .cons ⟨_, rfl⟩ (.cons ru .nil), ⟨_, hT2, rfl, _, rfl⟩⟩
    have I1 : Inv X pins σ (upd H s.heap.objs.size (.tup [.int (i : Nat), x])) { s with heap := h2, toks := tk + 1 } :=
      I.turnedNew (ch := [e, it]) (fun b ob hb q => (sb.2 b (fun z => hb (by simp [z]))).trans (hk b ob (fun z => hb (by simp [z])) (fun z => hb (by simp [z])) q)) hf (Nat.le_refl _) new
    refine ⟨.ref s.heap.objs.size, _, I1, rfl, ⟨_, x, rfl, I.hok.fresh (Nat.le_refl _), rfl, fun ys hy => ?_⟩, ⟨⟨y, ?_⟩, hst.1.at fun o q => (sb.2 it (Ne.symm hne)).trans q, hne, hae⟩, fun b hb => ?_⟩
    · rw [I.tuple_inj hy hq]; exact hx
    · have e1 : ((i + 1 : Nat) : Int) = (i : Int) + 1 := by omega
      rw [e1]; exact he2
    · rcases (show b = e ∨ b = it by simpa using hb) with rfl | rfl
      · rw [upd_ne (Nat.ne_of_lt hel)]; exact (hf _ hb).1
      · rw [upd_ne (Nat.ne_of_lt hil)]; exact (hf _ hb).1
  done := by
    intro X hP hw hK hc i pins s σ H E I hf st hg
    subst hP hw hK
    obtain ⟨⟨old, he⟩, hit, hne, hae⟩ := st
    obtain ⟨xs, hq, hx⟩ := hg
    obtain ⟨its, rv, p, hz⟩ := I.tuple hq
    have pT : s.heap.IsTuple a its.toArray := p
    obtain ⟨f0, f1, f2, f3, f4, f5⟩ := hf it (by simp)
    have hx' : its.toArray[i]? = none := by
      rw [List.getElem?_toArray, List.getElem?_eq_none_iff, ← rv.length]; exact hx
    have D : Draws X.prog X.w X.A.in1 it [it, a] i (fun _ _ => False) (fun j h => j = i ∧ h.IsTupleIter it a i ∧ h.IsTuple a its.toArray) := {
      live := fun _ _ st => let ⟨o, ho, _⟩ := st.2.1; ⟨o, ho⟩
      frame := fun _ _ _ st hk => ⟨st.1, st.2.1.at fun o q => hk it (by simp) o q, st.2.2.at fun o q => hk a (by simp) o q⟩
      item := fun j s Q E hj st => absurd st.1 (Nat.ne_of_lt hj)
      done := fun s Q E st hE => wpAny_nextOf_tuple_end (I.ok.hd hc) st.2.1 st.2.2 hx' hE }
    exact wpAny_pyNext_enum_endD D he ⟨rfl, hit, pT⟩ fun h' eb => ⟨rfl, I.turned (t' := s.toks) (fun b o hb q => eb b o hb q) f0 f1 f3 f4 f5⟩
  self := fun A i s Q E st h => let ⟨⟨_, he⟩, _⟩ := st; wpAny_pyIter_enum he h
def iEnT (K : PySem.W.Frag) (ta : TA) : TI := fun σ H R => ta σ H fun vs H1 => ∃ a xs, vs = [.ref a] ∧ ((SqT K H1 a xs ∧ R (ItEn K a) H1) ∨ (SqL K H1 a xs ∧ R (Ite K a) H1))
theorem pi_enT {X : Cx} {e : Expr} {ta : TA} {p pos tpos : Pos} {elts : List Expr} {kk : Nat} (hg : Gl X "enumerate") (hm : X.mg "enumerate" = none) (ha : PA X [e] ta) (hs : starEach [e] X.env = [(false, eval e X.env)] := by rfl) :
    PI X (.Tuple elts kk tpos) (.Call (.Name "enumerate" p) [e] [] pos) (iEnT X.K ta) := by
  refine ⟨fun pins s σ H R I h => ?_⟩
  refine Call_ (ld_blt I hg hm boot_enumerate (PyProof.Rows.callWith_type1 (thn (ha.run pos pins s σ H _ I h) fun us s1 ⟨vs, H1, I1, r1, a, xs, ev, q⟩ => ?_) hs rfl))
  subst ev
  cases r1 with
  | cons r rr =>
    cases rr
    cases r
    have fp : ∀ {h' : Heap}, ∀ b ∈ [s1.heap.objs.size + 1, s1.heap.objs.size], FpOk X pins H1 b := fun {h'} b hb => by
      have hle : s1.heap.objs.size ≤ b := by
        rcases (show b = s1.heap.objs.size + 1 ∨ b = s1.heap.objs.size by simpa using hb) with z | z <;> omega
      exact I1.fpOk hle (I1.hok.fresh hle)
    rcases q with ⟨hq, q⟩ | ⟨hq, q⟩
    · obtain ⟨its, rv, p', hz⟩ := I1.tuple hq
      have pT : s1.heap.IsTuple a its.toArray := p'
      have hal : a < s1.heap.objs.size := by obtain ⟨_, z, _⟩ := pT; exact Heap.lt_size z
      refine call_enumT pT fun h' he hit hsz hk => wpAny_pyIter_enum he ?_
      exact ⟨s1.heap.objs.size + 1, [s1.heap.objs.size + 1, s1.heap.objs.size], _, _, H1, rfl, I1.kept (t' := s1.toks) hk, turn_en a (s1.heap.objs.size + 1) s1.heap.objs.size (Nat.ne_of_lt hal), ⟨⟨.none, he⟩, hit, Nat.succ_ne_self _, show a ≠ s1.heap.objs.size + 1 from Nat.ne_of_lt (Nat.lt_succ_of_lt hal)⟩, fp (h' := h'), q⟩
    · obtain ⟨its, rv, p', hz⟩ := I1.list hq
      refine call_enumerate_list p'.isList fun h' he hit hsz hk => wpAny_pyIter_enum he ?_
      exact ⟨s1.heap.objs.size + 1, [s1.heap.objs.size + 1, s1.heap.objs.size], _, _, H1, rfl, I1.kept (t' := s1.toks) hk, turn_enum a (s1.heap.objs.size + 1) s1.heap.objs.size, ⟨⟨.none, he⟩, hit, Nat.succ_ne_self _⟩, fp (h' := h'), q⟩
section
variable {S : Sta} {B : Tabl} {φ : Fns} {lv : Nat} {X : Cx} {sc : Scope} {N : List Str} {E : XK} {pos : Pos}
def enumD (xs : List D) : List D := xs.zipIdx.map fun p => pairD (.int (p.2 : Nat)) p.1
theorem enumD_get {xs : List D} {i : Nat} {d : D} (h : (enumD xs)[i]? = some d) : ∃ x, xs[i]? = some x ∧ d = pairD (.int (i : Nat)) x := by
  unfold enumD at h
  rw [List.getElem?_map, List.getElem?_zipIdx] at h
  cases e : xs[i]? with
  | none => rw [e] at h; cases h
  | some x => rw [e] at h; simp at h; exact ⟨x, rfl, h.symm⟩
theorem itOk_enT {a : Addr} {as : List D} {vs : List V} {w1 : Wd} (h1 : SqT S.K w1.PH a vs) (d1 : DVs S w1 as vs) : ItOk S (ItEn S.K a) (enumD as) w1 := fun w H c hp hcs R => by
  have q1 : SqT S.K H a vs := sqt_mono R.per (sqt_mono hp h1)
  have e1 := DVs.mono hp hcs _ _ d1
  refine ⟨fun i hi => ⟨vs, q1, by rw [← e1.length]; simpa [enumD] using hi⟩, fun i d hd => ?_⟩
  obtain ⟨x, g1, rfl⟩ := enumD_get hd
  obtain ⟨u, k1, k2⟩ := e1.get g1
  refine ⟨⟨vs, u, q1, k1⟩, fun v H' ⟨T, x', ev, hT, eH, f1⟩ => ?_⟩
  have z1 := f1 vs q1
  rw [k1] at z1
  cases z1
  subst eH ev
  exact lay_pair R hT dvInt k2
theorem itOk_enL {a : Addr} {as : List D} {vs : List V} {w1 : Wd} (h1 : SqL S.K w1.PH a vs) (d1 : DVs S w1 as vs) : ItOk S (Ite S.K a) (enumD as) w1 := fun w H c hp hcs R => by
  have q1 : SqL S.K H a vs := sql_mono R.per (sql_mono hp h1)
  have e1 := DVs.mono hp hcs _ _ d1
  refine ⟨fun i hi => ⟨vs, q1, by rw [← e1.length]; simpa [enumD] using hi⟩, fun i d hd => ?_⟩
  obtain ⟨x, g1, rfl⟩ := enumD_get hd
  obtain ⟨u, k1, k2⟩ := e1.get g1
  refine ⟨⟨vs, u, q1, k1⟩, fun v H' ⟨T, x', ev, hT, eH, f1⟩ => ?_⟩
  have z1 := f1 vs q1
  rw [k1] at z1
  cases z1
  subst eH ev
  exact lay_pair R hT dvInt k2
def enK : D → Cells → Option Out
  | .tup [.tup xs], c => some (.ok (.tup (enumD xs)) c)
  | .tup [.lst xs], c => some (.ok (.tup (enumD xs)) c)
  | .tup [.scr xs], c => some (.ok (.tup (enumD xs)) c)
  | _, _ => none
theorem enK_ok {d : D} {c : Cells} {o : Out} (h : enK d c = some o) : ∃ x xs, d = .tup [x] ∧ o = .ok (.tup (enumD xs)) c ∧ (x = .tup xs ∨ stillL x = some xs) := by
  unfold enK at h
  split at h
  · exact ⟨_, _, rfl, (Option.some.inj h).symm, .inl rfl⟩
  · exact ⟨_, _, rfl, (Option.some.inj h).symm, .inr rfl⟩
  · exact ⟨_, _, rfl, (Option.some.inj h).symm, .inr rfl⟩
  · cases h
theorem ci_enum (C : Cxt S B φ lv X sc N E) {elts : List Expr} {kk : Nat} {tpos p : Pos} {a : Expr} {f : SE} (ha : PE X a (tD S E f)) (hg : glB sc "enumerate" = true := by decide +kernel) (hs : starEach [a] X.env = [(false, eval a X.env)] := by rfl) :
    PI X (.Tuple elts kk tpos) (.Call (.Name "enumerate" p) [a] [] pos) (tI S E (e1 enK (consA f nilA))) := by
  refine (pi_enT (gl_of (by rw [C.hs]; exact hg)) C.blt.enum (ca_cons ha ca_nil hs) hs).imp fun σ H R' h => ?_
  refine tIA_bind (k := fun _ => enK) h (fun h => let ⟨x, xs, h1, h2, _⟩ := enK_ok h; ⟨_, _, _, h1, h2⟩) fun w env ds c vs H1 items c1 R e dv k q => ?_
  obtain ⟨x, xs, h1, h2, h3⟩ := enK_ok k
  cases h1
  cases h2
  obtain ⟨v, rfl, q1⟩ := dvs1 dv
  rw [C.hK]
  rcases h3 with rfl | k1
  · simp only [DV] at q1
    obtain ⟨a1, vs, rfl, g1, g2⟩ := q1
    exact ⟨a1, vs, rfl, .inl ⟨sqt_mono R.per g1, q w H1 _ (Tr.refl w H1) R (itOk_enT g1 g2)⟩⟩
  · obtain ⟨a1, vs, rfl, g1, g2⟩ := still_ok q1 k1
    exact ⟨a1, vs, rfl, .inr ⟨sql_mono R.per g1, q w H1 _ (Tr.refl w H1) R (itOk_enL g1 g2)⟩⟩

/-! ### sorted of texts -/
theorem strLe_refl (x : Str) : strLe x x = true := by
  unfold strLe
  simp [List.lt_irrefl]
theorem str_eq {x y : Str} (h : x.cps.toList = y.cps.toList) : x = y := by
  cases x; cases y
  congr
  exact Array.toList_inj.mp h
theorem strLe_anti {x y : Str} (h1 : strLe x y = true) (h2 : strLe y x = true) : x = y := by
  unfold strLe at h1 h2
  simp only [Bool.not_eq_true', decide_eq_false_iff_not, List.not_lt] at h1 h2
  exact str_eq (List.le_antisymm h1 h2)
theorem strLe_total (x y : Str) : strLe x y = true ∨ strLe y x = true := by
  unfold strLe
  simp only [Bool.not_eq_true', decide_eq_false_iff_not, List.not_lt]
  exact List.le_total _ _
theorem strLe_trans {x y z : Str} (h1 : strLe x y = true) (h2 : strLe y z = true) : strLe x z = true := by
  unfold strLe at h1 h2 ⊢
  simp only [Bool.not_eq_true', decide_eq_false_iff_not, List.not_lt] at h1 h2 ⊢
  exact List.le_trans h1 h2
theorem ins_comm (x y : Str) : ∀ l : List Str, insS x (insS y l) = insS y (insS x l)
  | [] => by
    simp only [insS]
    by_cases h : strLe x y = true
    · by_cases h2 : strLe y x = true
      · rw [strLe_anti h h2]
      · rw [if_pos h, if_neg h2]
    · have h2 : strLe y x = true := (strLe_total x y).resolve_left h
      rw [if_neg h, if_pos h2]
  | z :: l => by
    have ih := ins_comm x y l
    by_cases hxz : strLe x z = true <;> by_cases hyz : strLe y z = true <;> by_cases hxy : strLe x y = true <;> by_cases hyx : strLe y x = true
    all_goals (simp only [insS, hxz, hyz, hxy, hyx, if_true, if_false, Bool.false_eq_true])
    all_goals first
      | rfl
      | (exact congrArg _ ih)
      | (exact absurd ((strLe_total x y).resolve_left hxy) hyx)
      | (exact absurd (strLe_trans hxy hyz) hxz)
      | (exact absurd (strLe_trans hyx hxz) hyz)
      | (rw [strLe_anti hxy hyx])
theorem sort_perm {l m : List Str} (h : l.Perm m) : sortS l = sortS m := by
  induction h with
  | nil => rfl
  | cons x _ ih => simp only [sortS, ih]
  | swap x y l => simp only [sortS]; exact ins_comm y x _
  | trans _ _ h1 h2 => exact h1.trans h2
theorem sort_rising : ∀ (l : List Str) (p : Str), risingS p l = true → sortS (p :: l) = p :: l
  | [], p, _ => rfl
  | x :: r, p, h => by
    simp only [risingS, Bool.and_eq_true] at h
    have ih := sort_rising r x h.2
    show insS p (sortS (x :: r)) = _
    rw [ih]
    simp only [insS]
    rw [if_pos]
    unfold strLe
    rw [← ltCps_eq]
    exact h.1
theorem sort_sorted {l : List Str} (h : sortedS l = true) : sortS l = l := by
  cases l with
  | nil => rfl
  | cons x r => exact sort_rising r x h
def sortK : List D → Cells → Option Out
  | [x], c => match lqview c x with
    | some l => (match strsD l with
      | some ss => if decide (ss.length < 64) then some (.ok (.lst ((sortS ss).map .str)) c) else none
      | none => none)
    | none => none
  | _, _ => none
theorem opN_sort (hK : X.K = S.K) : OpN S E (rSortedS X.K) sortK := fun w H c ds vs o Q R hv ho hre => by
  unfold sortK at ho
  split at ho
  · split at ho
    · rename_i l hl
      split at ho
      · rename_i ss hss
        split at ho
        · rename_i h64
          cases ho
          obtain ⟨v, rfl, q⟩ := dvs1 hv
          obtain ⟨a, us, rfl, h2, h3⟩ := lqview_ok R q hl
          have e := strs_ok hss h3
          subst e
          refine ⟨a, ss, rfl, by rw [hK]; exact h2, of_decide_eq_true h64, fun ys p hp hs hn => ?_⟩
          have e2 : sortS ss = ys := by rw [← sort_perm hp, sort_sorted hs]
          rw [e2] at hre
          exact re_lst R (dvs_strs ys) hn hre
        · cases ho
      · cases ho
    · cases ho
  · cases ho
theorem ce_sorted (C : Cxt S B φ lv X sc N E) {a : Expr} {f : SE} {p : Pos} (ha : PE X a (tD S E f)) (hg : glB sc "sorted" = true := by decide +kernel) (hs : starEach [a] X.env = [(false, eval a X.env)] := by rfl) :
    PE X (.Call (.Name "sorted" p) [a] [] pos) (tD S E (bE sortK (consA f nilA))) := ce_b C cr_sortedS (opN_sort C.hK) C.blt.sorted PyProof.Rows.boot_sorted (ca_cons ha ca_nil hs) hg (by decide +kernel) (by decide +kernel) hs rfl

/-! ### x.split(y) -/
def splitK : Str → List D → Cells → Option Out := fun x ds c => match ds with
  | [.str y] => if decide (y.length ≠ 0) && decide (x.length + 2 ≤ 100000) then some (.ok (.lst ((Txt.split x y).map .str)) c) else none
  | _ => none
theorem opM_split : OpM S E (fun x xs H Q => ∃ a b, x = .str a ∧ xs = [.str b] ∧ (b.length == 0) = false ∧ a.length + 2 ≤ sizeLine ∧ rNewStrs (Txt.split a b) H Q) (fun d => match d with
    | .str z => splitK z
    | _ => fun _ _ => none) := fun w H c d x ds vs o Q R hx hv ho hre => by
  cases d with
  | str z =>
    replace ho : splitK z ds c = some o := ho
    unfold splitK at ho
    split at ho
    · rename_i y
      split at ho
      · rename_i hz
        simp only [Bool.and_eq_true, decide_eq_true_eq] at hz
        cases ho
        obtain ⟨u, rfl, q⟩ := dvs1 hv
        refine ⟨z, y, dv_str hx, by rw [dv_str q], ?_, Nat.le_trans hz.2 (by decide), fun p hp => re_lst R (dvs_strs _) hp hre⟩
        exact beq_eq_false_iff_ne.mpr hz.1
      · cases ho
    · cases ho
  | _ => cases ho
theorem ce_sm1 (C : Cxt S B φ lv X sc N E) {name : Str} {id : String} {r : V → List V → Hp → VK → Prop} {k : Str → List D → Cells → Option Out} (slot : Slot "str" name id) (ty : typeOf (.builtin id) = pure (.type "method_descriptor")) (rule : MtR X id r)
    (hk : OpM S E r (fun d => match d with
    | .str z => k z
    | _ => fun _ _ => none)) {o e : Expr} {fo fa : SE} {apos : Pos} (ho : PE X o (tD S E fo)) (ha : PE X e (tD S E fa))
    (hs : starEach [e] X.env = [(false, eval e X.env)]) (hbase : attributeBase o name X.env (eval o X.env) = eval o X.env)
    (hfew : ((backTo pos (starEach [e] X.env)).all (fun x => !x.1) && (backToKw pos (keywordEach [] X.env)).all (fun x => x.1.isSome)
      && decide (([e] : List Expr).length + ([] : List Keyword).length + (if ([] : List Keyword).isEmpty then 0 else 1) < 30)) = true)
    (hline : (apos.endLine == pos.line) = true) : PE X (.Call (.Attribute o name apos) [e] [] pos) (tD S E (smE k fo (consA fa nilA))) :=
  (pe_bm F.plainAttrs_str slot ty rule ho (ca_cons ha ca_nil hs) hbase hfew hline (by rw [hs]; rfl) (by rfl)).imp (tD_sm hk)
theorem ce_split (C : Cxt S B φ lv X sc N E) {o e : Expr} {fo fa : SE} {apos : Pos} (ho : PE X o (tD S E fo)) (ha : PE X e (tD S E fa))
    (hs : starEach [e] X.env = [(false, eval e X.env)] := by rfl) (hbase : attributeBase o "split" X.env (eval o X.env) = eval o X.env := by rfl)
    (hfew : ((backTo pos (starEach [e] X.env)).all (fun x => !x.1) && (backToKw pos (keywordEach [] X.env)).all (fun x => x.1.isSome)
      && decide (([e] : List Expr).length + ([] : List Keyword).length + (if ([] : List Keyword).isEmpty then 0 else 1) < 30)) = true := by rfl) (hline : (apos.endLine == pos.line) = true := by rfl) :
    PE X (.Call (.Attribute o "split" apos) [e] [] pos) (tD S E (smE splitK fo (consA fa nilA))) := ce_sm1 C F.slot_str_split F.type_str_split mt_split opM_split ho ha hs hbase hfew hline
end
end G
set_option Elab.async false
set_option linter.all false
set_option maxRecDepth 100000
set_option maxHeartbeats 4000000
namespace G
open PySem PySem.Spec PyProof.Rows L2

/-! ### repr of data -/
mutual
/-- the text has at most so many signs -/
def shb : D → Option Nat
  | .non => some 4
  | .bl _ => some 5
  | .int i => if decide (i.natAbs < 10 ^ 18) then some 20 else none
  | .str x => if x.cps.toList.all (fun c => decide (c < 1114112)) then some (10 * x.length + 2) else none
  | .tup xs => shbs xs
  | .lst xs => shbs xs
  | _ => none
def shbs : List D → Option Nat
  | [] => some 3
  | d :: ds => match shb d, shbs ds with
    | some a, some b => some (a + 2 + b)
    | _, _ => none
end
theorem textFrom_le : ∀ (ts : List Str) (k : Nat) (acc : Str), (textFrom k acc ts).length ≤ acc.length + piled ts
  | [], k, acc => Nat.le_add_right _ _
  | t :: r, k, acc => by
    have ih := textFrom_le r (k + 1) (acc ++ (if k > 0 then ", " else "" : String) ++ t)
    have e : (acc ++ (if k > 0 then ", " else "" : String) ++ t).length ≤ acc.length + 2 + t.length := by
      rw [strLen_append, strLen_append]
      split
      · exact Nat.le_refl _
      · show acc.length + 0 + t.length ≤ _
        omega
    rw [piled_cons]
    show (textFrom (k + 1) _ r).length ≤ _
    omega
theorem listText_le (ts : List Str) : (listText ts).length ≤ piled ts + 3 := by
  have h := textFrom_le ts 0 "["
  have e : (listText ts).length = (textFrom 0 "[" ts).length + 1 := by
    show (textFrom 0 "[" ts ++ "]").length = _
    rw [strLen_append]; rfl
  have e1 : ("[" : Str).length = 1 := rfl
  omega
theorem tupleText_le (ts : List Str) : (tupleText ts).length ≤ piled ts + 3 := by
  unfold tupleText
  rw [strLen_append, strLen_append]
  have e1 : ("(" : Str).length = 1 := rfl
  have e2 : ((if ts.length == 1 then ",)" else ")" : String) : Str).length ≤ 2 := by
    split
    · exact Nat.le_refl _
    · show (1 : Nat) ≤ 2; omega
  have e3 : (Str.join ", " ts).length ≤ piled ts := by
    cases ts with
    | nil => exact Nat.le_refl _
    | cons t r =>
      have := join_length_add (t :: r) (by simp)
      omega
  omega
mutual
theorem shb_ok : ∀ (d : D) (n : Nat), shb d = some n → (toPy d).showable = true ∧ (toPy d).shown.length ≤ n
  | .non, n, h => by cases h; exact ⟨rfl, Nat.le_refl _⟩
  | .bl b, n, h => by
    cases h
    refine ⟨rfl, ?_⟩
    cases b
    · exact Nat.le_refl _
    · show (4 : Nat) ≤ 5; omega
  | .int i, n, h => by
    simp only [shb] at h
    split at h
    · rename_i z
      cases h
      have z' : i.natAbs < 10 ^ 18 := of_decide_eq_true z
      refine ⟨?_, ?_⟩
      · show (PyData.int i).showable = true
        simp only [PyData.showable, decide_eq_true_eq]
        have : i.natAbs.log2 < 64 := by
          by_cases h0 : i.natAbs = 0
          · rw [h0]; decide
          · rw [Nat.log2_lt h0]
            exact Nat.lt_trans z' (by decide)
        omega
      · show (PyData.int i).shown.length ≤ 20
        simp only [PyData.shown]
        have e : (Str.ofString (toString i)).length = (toString i).length := PySem.ofString_length _
        rw [e]
        exact Nat.le_trans (int_text_length_le10 (k := 18) (by decide) z') (by decide)
    · cases h
  | .str x, n, h => by
    simp only [shb] at h
    split at h
    · rename_i z
      cases h
      refine ⟨rfl, ?_⟩
      show (PyData.str x).shown.length ≤ _
      simp only [PyData.shown]
      exact StrLaws.reprText_len x fun c hc => Nat.lt_trans (of_decide_eq_true (List.all_eq_true.mp z c hc)) (by decide)
    · cases h
  | .tup xs, n, h => by
    have h : shbs xs = some n := h
    obtain ⟨h1, h2⟩ := shbs_ok xs n h
    refine ⟨by show (PyData.tuple (toPys xs)).showable = true; simpa only [PyData.showable] using h1, ?_⟩
    show (PyData.tuple (toPys xs)).shown.length ≤ n
    simp only [PyData.shown]
    exact Nat.le_trans (tupleText_le _) h2
  | .lst xs, n, h => by
    have h : shbs xs = some n := h
    obtain ⟨h1, h2⟩ := shbs_ok xs n h
    refine ⟨by show (PyData.list (toPys xs)).showable = true; simpa only [PyData.showable] using h1, ?_⟩
    show (PyData.list (toPys xs)).shown.length ≤ n
    simp only [PyData.shown]
    exact Nat.le_trans (listText_le _) h2
  | .scr _, n, h => by cases h
  | .cell _, n, h => by cases h
  | .fn _, n, h => by cases h
theorem shbs_ok : ∀ (ds : List D) (n : Nat), shbs ds = some n → PyData.showableAll (toPys ds) = true ∧ piled (PyData.shownAll (toPys ds)) + 3 ≤ n
  | [], n, h => by
    cases h
    exact ⟨rfl, Nat.le_refl _⟩
  | d :: ds, n, h => by
    simp only [shbs] at h
    split at h
    · rename_i a b ha hb
      cases h
      obtain ⟨h1, h2⟩ := shb_ok d a ha
      obtain ⟨h3, h4⟩ := shbs_ok ds b hb
      refine ⟨by simp only [toPys, PyData.showableAll, h1, h3, Bool.and_self], ?_⟩
      simp only [toPys, PyData.shownAll]
      rw [piled_cons]
      omega
    · cases h
end
section
variable {S : Sta} {B : Tabl} {φ : Fns} {lv : Nat} {X : Cx} {sc : Scope} {N : List Str} {E : XK} {pos : Pos}
def rRepr (K : PySem.W.Frag) : List V → Hp → VK → Prop := fun xs H Q => ∃ a d, xs = [.ref a] ∧ Dp K H (.ref a) d ∧ d.showable = true ∧ d.hasDict = false ∧ d.depth ≤ 60 ∧ d.shown.length ≤ sizeLine ∧ Q (.str d.shown) H
theorem call_reprD (hg : X.A.guards = some []) (hu : X.A.units + 64 < cLine) : CallR X (.builtin "repr") (rRepr X.K) := by
  intro pins s σ H xs us Q I r ⟨a, d, ex, hd, h1, h2, h3, h4, q⟩
  subst ex
  cases r with
  | cons r rr =>
    cases rr
    obtain ⟨as, rd⟩ := Dp.reads I d _ _ hd r
    cases r
    exact repr_of_reads' rd h1 (fun z => by rw [h2] at z; cases z) hg (by omega) (fun _ _ z => z) (fun h' u tk hk => ⟨.str d.shown, H, I.kept (t' := tk) hk, ⟨u, rfl⟩, q⟩) h4
def isObj : D → Bool
  | .tup _ => true
  | .lst _ => true
  | .cell _ => true
  | _ => false
def repK : List D → Cells → Option Out
  | [x], c => match shb (rs c x) with
    | some n => if fit 60 (rs c x) && isObj x && decide (n ≤ 1000000) then some (.ok (.str (toPy (rs c x)).shown) c) else none
    | none => none
  | _, _ => none
theorem opN_repr (hK : X.K = S.K) : OpN S E (rRepr X.K) repK := fun w H c ds vs o Q R hv ho hre => by
  unfold repK at ho
  split at ho
  · rename_i x
    split at ho
    · rename_i n hn
      split at ho
      · rename_i z
        simp only [Bool.and_eq_true, decide_eq_true_eq] at z
        cases ho
        obtain ⟨v, rfl, q⟩ := dvs1 hv
        have hd := rs_dp R q z.1.1
        obtain ⟨h1, h2⟩ := shb_ok _ n hn
        obtain ⟨l1, l2⟩ := fit_lay 60 _ z.1.1
        have hv' : ∃ a, v = .ref a := by
          cases x with
          | tup xs => simp only [DV] at q; obtain ⟨a, _, e, _⟩ := q; exact ⟨a, e⟩
          | lst xs => simp only [DV] at q; obtain ⟨a, _, e, _⟩ := q; exact ⟨a, e⟩
          | cell k => simp only [DV] at q; obtain ⟨a, _, e⟩ := q; exact ⟨a, e⟩
          | _ => exact absurd z.1.2 (by simp [isObj])
        obtain ⟨a, rfl⟩ := hv'
        rw [hK]
        exact ⟨a, _, rfl, hd, h1, PyData.hasDict_of_canLay _ l1, l2, Nat.le_trans h2 (Nat.le_trans z.2 (by decide)), RE.now R dvStr hre⟩
      · cases ho
    · cases ho
  · cases ho
theorem ce_repr (C : Cxt S B φ lv X sc N E) {a : Expr} {f : SE} {p : Pos} (ha : PE X a (tD S E f)) (hg : glB sc "repr" = true := by decide +kernel) (hs : starEach [a] X.env = [(false, eval a X.env)] := by rfl) :
    PE X (.Call (.Name "repr" p) [a] [] pos) (tD S E (bE repK (consA f nilA))) := ce_b C (call_reprD C.grd C.room.units) (opN_repr C.hK) C.blt.repr PyProof.Rows.boot_repr (ca_cons ha ca_nil hs) hg (by decide +kernel) (by decide +kernel) hs rfl
end
end G
set_option Elab.async false
set_option linter.all false
set_option maxRecDepth 100000
set_option maxHeartbeats 4000000
namespace G
open PySem PySem.Spec PyProof.Rows L2

/-! ### the end: the law's call -/
/-- the heap as it is looked at: the script frozen if it is not the written part's, the tables -/
def hp0 (fz : Option (Addr × HO)) (tb : List Addr) : Hp := fun b => if b ∈ tb then some (.tbl #[]) else match fz with
  | some (a, o) => if b = a then some o else none
  | none => none
theorem hp0_tb {fz : Option (Addr × HO)} {tb : List Addr} {b : Addr} (h : b ∈ tb) : hp0 fz tb b = some (.tbl #[]) := if_pos h
theorem hp0_out {tb : List Addr} {fz : Option (Addr × HO)} {b : Addr} {u : HO} (h : hp0 fz tb b = some u) : (b ∈ tb ∧ u = .tbl #[]) ∨ (b ∉ tb ∧ ∃ o, fz = some (b, o) ∧ u = o) := by
  unfold hp0 at h
  split at h
  · rename_i z
    exact .inl ⟨z, (Option.some.inj h).symm⟩
  · rename_i z
    split at h
    · rename_i a o
      split at h
      · rename_i e
        subst e
        exact .inr ⟨z, o, rfl, (Option.some.inj h).symm⟩
      · cases h
    · cases h
section
variable {P : Program} {w : World} {K : PySem.W.Frag} {mg mb : Str → Option Value} {k : Nat} {fa a : Addr} {cs : List (Addr × Addr)} {fd : FuncData} {x : Str} {s1 : Shared} {vs : List Value} {ns : List Int}
/-- what is told of the law's def at the head's heap -/
structure EndG (P : Program) (w : World) (K : PySem.W.Frag) (k n : Nat) (x : Str) (mg : Str → Option Value) (fa : Addr) (h : Heap) : Prop where
  ex : ∃ (fd : FuncData) (cs : List (Addr × Addr)) (S : Sta) (g : List D → Cells → Option Out) (nm : Nat → Nat → Str),
    (∀ p ∈ cs, h.get? p.2 = some { cls := .none, data := .fields #[] }) ∧ (∀ p ∈ cs, K.lookup p.2 = none) ∧ (∀ p ∈ cs, PySem.W.CodeHd h p.1 p.2) ∧ (∀ (s : Shared) (u : Value), BindsTo s fd ⟨[u], []⟩ [(x, u)]) ∧
    S.K = K ∧ S.T = cs.map (fun p => (p.2, nm)) ∧ (∀ base : Heap, K.In base → base.Ns mainGlobals mg → (∀ p ∈ cs, LamX.TabB base mg p.1 p.2) → FnR S P w K mg base k fa fd [x] g) ∧
    ∀ ns : List Int, ns.length ≤ n → (∀ z ∈ ns, Builtin.Int.intBits z ≤ 1048576) → ∃ c, g [.scr (ns.map D.int)] [] = some (.ok (.bl true) c)
theorem dvs_ints {S : Sta} {wd : Wd} : ∀ ys : List Int, DVs S wd (ys.map D.int) (ys.map V.int)
  | [] => DVs.nil
  | y :: ys => DVs.cons dvInt (dvs_ints ys)
theorem law_callG {n : Nat} (KX : K.In s1.heap) (hns : s1.heap.Ns mainGlobals mg) (hb : s1.heap.Ns builtinsNs mb) (hbb : ∀ y : Str, y ≠ "__name__" → mb y = bootBuiltins y) (hlim : s1.heap.NoLimit) (hgens : s1.gens = #[])
    (hbm : ∃ (bm : Addr) (ob : Obj), mg "__builtins__" = some (.ref bm) ∧ bm ≠ builtinsNs ∧ s1.heap.get? bm = some ob ∧ ob.cls = .type "module" ∧ ob.dict = some builtinsNs ∧ ob.data = .plain)
    (ha : s1.heap.get? a = some { cls := .type "list", data := .seq vs.toArray }) (hi : IntsAre vs ns) (hl : ns.length ≤ sizeLine) (hln : ns.length ≤ n) (hbits : ∀ z ∈ ns, Builtin.Int.intBits z ≤ 1048576) (hr : Room k callerA) (L : EndG P w K k n x mg fa s1.heap) :
    codeAny (model P w) callerA (.call (.ref fa) ⟨[.ref a], []⟩) (fun r s' => r = .ok (.ret (.bool true)) ∧ OldK s1.heap s'.heap ∧ s'.os = s1.os ∧ AllBare s'.gens) s1 := by
  obtain ⟨fd, cs, S, g, nm, hT, nT, hC, hbind, hSK, hST, hF, hans⟩ := L.ex
  have rv := vals_ints hi
  have lv := hi.length
  have tab_obj : ∀ {b : Addr}, b ∈ cs.map (·.2) → s1.heap.get? b = some { cls := .none, data := .fields #[] } ∧ K.lookup b = none := fun {b} hm => by
    obtain ⟨p, hp, rfl⟩ := List.mem_map.mp hm
    exact ⟨hT p hp, nT p hp⟩
  have a_tab : a ∉ cs.map (·.2) := fun hm => by
    have z := (tab_obj hm).1
    rw [ha] at z
    have := congrArg Obj.data (Option.some.inj z)
    cases this
  -- the heap that is looked at
  have start : ∃ fz : Option (Addr × HO), SqL K (fun b => if b ∈ cs.map (·.2) then none else hp0 fz (cs.map (·.2)) b) a (ns.map V.int) ∧ HOk P w (hp0 fz (cs.map (·.2))) s1.heap ∧ (∀ b o, fz = some (b, o) → b = a ∧ K.lookup a = none ∧ ∃ ob xs, o = .frz ob (.lst xs)) := by
    have tok : ∀ (fz : Option (Addr × HO)) (b : Addr), b ∈ cs.map (·.2) → ObjOk P w (hp0 fz (cs.map (·.2))) s1.heap b (.tbl #[]) := fun fz b hm => (tab_obj hm).1
    cases e : K.lookup a with
    | some o =>
      have z := KX a o e
      rw [ha] at z
      cases z
      refine ⟨none, .inr ⟨_, vs.toArray, _, e, rfl, rfl, rfl, ?_, ?_⟩, fun b u q => ?_, fun b o q => by cases q⟩
      · rw [List.size_toArray, lv]; exact hl
      · simpa using rv
      · rcases hp0_out q with ⟨z1, rfl⟩ | ⟨_, o, z2, _⟩
        · exact tok none b z1
        · cases z2
    | none =>
      refine ⟨some (a, .frz { cls := .type "list", data := .seq vs.toArray } (.lst (ns.map V.int))), .inl (.inr ⟨{ cls := .type "list", data := .seq vs.toArray }, ?_⟩), fun b u q => ?_, fun b o q => ?_⟩
      · show (if a ∈ cs.map (·.2) then none else hp0 _ (cs.map (·.2)) a) = _
        rw [if_neg a_tab]
        show (if a ∈ cs.map (·.2) then _ else if a = a then _ else none) = _
        rw [if_neg a_tab, if_pos rfl]
      · rcases hp0_out q with ⟨z1, rfl⟩ | ⟨_, o, z2, rfl⟩
        · exact tok _ b z1
        · cases z2
          exact ⟨ha, by rw [List.length_map]; exact hl, vs, _, rv, ha⟩
      · cases q
        exact ⟨rfl, rfl, _, _, rfl⟩
  obtain ⟨fz, hS, hok, hfz⟩ := start
  -- what is not looked at
  have hid : ∀ {b : Addr} {o : Obj}, s1.heap.get? b = some o → (∀ us m, o.data ≠ .seq us m) → o.data ≠ .fields #[] → hp0 fz (cs.map (·.2)) b = none := fun {b o} e n1 n2 => by
    cases q : hp0 fz (cs.map (·.2)) b with
    | none => rfl
    | some u =>
      rcases hp0_out q with ⟨z1, _⟩ | ⟨_, o', z2, _⟩
      · rw [(tab_obj z1).1] at e
        cases e
        exact absurd rfl n2
      · obtain ⟨rfl, _⟩ := hfz b o' z2
        rw [ha] at e
        cases e
        exact absurd rfl (n1 _ _)
  have still : ∀ {b : Addr} {o : Obj}, s1.heap.get? b = some o → (∀ us m, o.data ≠ .seq us m) → o.data ≠ .fields #[] → (hidT s1.heap (hp0 fz (cs.map (·.2)))).get? b = some o := fun e n1 n2 => hidT_get e (hid e n1 n2)
  have stillNs : ∀ {b : Addr} {m : Str → Option Value}, s1.heap.Ns b m → (hidT s1.heap (hp0 fz (cs.map (·.2)))).Ns b m := fun {b m} ⟨o, es, ep, e, d, r⟩ => ⟨o, es, ep, still e (fun us m z => by rw [d] at z; cases z) (fun z => by rw [d] at z; cases z), d, r⟩
  have kin : K.In (hidT s1.heap (hp0 fz (cs.map (·.2)))) := fun b o e => hidT_get (KX b o e) (by
    cases q : hp0 fz (cs.map (·.2)) b with
    | none => rfl
    | some u =>
      rcases hp0_out q with ⟨z1, _⟩ | ⟨_, o', z2, _⟩
      · rw [(tab_obj z1).2] at e; cases e
      · obtain ⟨rfl, z3, _⟩ := hfz b o' z2
        rw [z3] at e; cases e)
  have md : L2.Mod K mg (hidT s1.heap (hp0 fz (cs.map (·.2)))) := ⟨kin, stillNs hns, ⟨mb, stillNs hb, hbb⟩, let ⟨mc, q1, q2⟩ := hlim; ⟨mc, stillNs q1, q2⟩⟩
  obtain ⟨gO, gE, gP, gh, gd, gr⟩ := hns
  have tbs : ∀ p ∈ cs, LamX.TabB (hidT s1.heap (hp0 fz (cs.map (·.2)))) mg p.1 p.2 := fun p hp => by
    have hTp := hT p hp
    obtain ⟨bm, ob, b1, b2, b3, b4, b5, b6⟩ := hbm
    refine ⟨?_, ⟨bm, ob, b1, b2, fun q => ?_, fun q => ?_, still b3 (fun us m z => by rw [b6] at z; cases z) (fun z => by rw [b6] at z; cases z), b4, b5, b6⟩, fun q => ?_⟩
    · obtain ⟨o, us, t1, t2, t3, t4, t5, t6, t7, e1, e2, e3, e4, er⟩ := hC p hp
      refine ⟨o, us, t1, t2, t3, t4, t5, t6, t7, still e1 (fun us m z => by rw [e3] at z; cases z) (fun z => ?_), e2, e3, e4, er⟩
      rw [e3] at z
      cases z
      simp at e4
    · rw [q, gh] at b3
      cases b3
      rw [gd] at b6
      cases b6
    · rw [q, hTp] at b3
      cases b3
      cases b6
    · rw [q, hTp] at gh
      cases gh
      cases gd
  have ev : Env0 P w K mg (hidT s1.heap (hp0 fz (cs.map (·.2)))) callerA [] s1 (hp0 fz (cs.map (·.2))) := ⟨rfl, md, fun b o e => of_hidT e, Nat.le_of_eq (hidT_size _ _), trivial, fun b hm => absurd (show b ∈ ([] : List Addr) from hm) (by simp), hok, .of_eq hgens⟩
  -- the law's own reckoning
  obtain ⟨cF, hgv⟩ := hans ns hln hbits
  have F := hF _ kin (stillNs ⟨gO, gE, gP, gh, gd, gr⟩) tbs
  have RR : Rep S ⟨fun b => if b ∈ cs.map (·.2) then none else hp0 fz (cs.map (·.2)) b, []⟩ (hp0 fz (cs.map (·.2))) [] := {
    per := fun b o e => by
      have e : (if b ∈ cs.map (·.2) then none else hp0 fz (cs.map (·.2)) b) = some o := e
      split at e
      · cases e
      · exact e
    len := rfl
    nd := List.nodup_nil
    cell := fun n b l e => by simp at e
    tab := fun p hp => by
      rw [hST] at hp
      obtain ⟨q, hq, rfl⟩ := List.mem_map.mp hp
      exact NdefX.TabN.nil (hp0_tb (List.mem_map.mpr ⟨q, hq, rfl⟩))
    tabP := fun p hp => by
      rw [hST] at hp
      obtain ⟨q, hq, rfl⟩ := List.mem_map.mp hp
      show (if q.2 ∈ cs.map (·.2) then none else _) = none
      rw [if_pos (List.mem_map.mpr ⟨q, hq, rfl⟩)] }
  have da : DVs S ⟨fun b => if b ∈ cs.map (·.2) then none else hp0 fz (cs.map (·.2)) b, []⟩ [.scr (ns.map D.int)] [.ref a] := by
    refine DVs.cons ?_ DVs.nil
    simp only [DV]
    exact ⟨a, _, rfl, by rw [hSK]; exact hS, dvs_ints ns⟩
  refine codeAny_mono (F.run callerA [] s1 _ ⟨[.ref a], []⟩ [.ref a] [.ref a] _ _ [] _ (fun v _ => v = .bl true) (fun _ _ _ => False) hr rfl ev (hbind s1 (.ref a)) (.cons rfl .nil) RR da rfl hgv (fun w' H' v t R' q => dv_bl q)) fun r s' h => ?_
  match r, h with
  | .error e, h =>
    obtain ⟨_, _, _, _, _, _, _, _, _, _, _, _, no⟩ := (show L2.CX P w [] _ s1 (fun _ _ _ => False) e s' from h)
    exact no.elim
  | .ok (.ret u), h =>
    obtain ⟨v, H', hos, bare, un, hok', r', q'⟩ := h
    have ev : v = .bl true := q'
    subst ev
    obtain rfl : u = Value.bool true := r'
    have same : ∀ {b : Addr} {o : Obj}, b ∉ cs.map (·.2) → s1.heap.get? b = some o → s'.heap.get? b = some o := fun {b o} nb e => by
      cases q : hp0 fz (cs.map (·.2)) b with
      | none => exact un.keep b o e q (fun z => nomatch (show b ∈ ([] : List Addr) from z)) (fun z => nomatch (show b ∈ ([] : List Addr) from z))
      | some u =>
        rcases hp0_out q with ⟨z1, _⟩ | ⟨_, o', z2, rfl⟩
        · exact absurd z1 nb
        · obtain ⟨_, _, ob, xs, rfl⟩ := hfz b _ z2
          have k1 := (hok b _ q).1
          have k2 := (hok' b _ (un.frzs b ob _ q)).1
          rw [e] at k1
          cases k1
          exact k2
    have grows : ∀ p ∈ cs, ∃ more : Array Value, s'.heap.get? p.2 = some { cls := .none, data := .fields more } := fun p hp => by
      obtain ⟨more, z⟩ := un.tbls p.2 #[] (hp0_tb (List.mem_map.mpr ⟨p, hp, rfl⟩))
      exact ⟨_, hok' p.2 _ z⟩
    refine ⟨rfl, ⟨fun b o e => ?_, fun b o e => ?_⟩, hos, bare⟩
    · by_cases hm : b ∈ cs.map (·.2)
      · obtain ⟨p, hp, rfl⟩ := List.mem_map.mp hm
        obtain ⟨more, z⟩ := grows p hp
        have e2 := hT p hp
        rw [e2] at e
        cases e
        exact .inr (.inl ⟨((hC p hp).tab e2).isCodeTable, rfl, #[], more, rfl, by rw [Array.empty_append]; exact z⟩)
      · exact .inl (same hm e)
    · by_cases hm : b ∈ cs.map (·.2)
      · obtain ⟨p, hp, rfl⟩ := List.mem_map.mp hm
        obtain ⟨more, z⟩ := grows p hp
        exact ⟨_, z⟩
      · exact ⟨o, same hm e⟩
end
theorem walk_G {l : PySem.W.OpenLaw} {n k : Nat} {q : Program} {loose : List Str} {XP : (Str → Option Value) → Heap → Prop} {YP : World → Heap → Prop} {d : DefRec} {x : Str} (hn : l.most = some n) (hz : n ≤ sizeLine) (hdf : d.params.defaults = []) (hr : Room k callerA)
    (F : ∀ (w : World) (mg : Str → Option Value) (fa : Addr) (h : Heap), YP w h → h.Ns mainGlobals mg → mg d.name = some (.ref fa) → ∃ K : PySem.W.Frag, K.In h ∧ EndG l.prog w K k n x mg fa h) :
    PySem.W.WalkO q loose XP YP l.row.toRowW d [] (fun f vs => PySem.call f vs) :=
  Att.attach_callB hn hdf fun w s0 s1 mg mb fa o pm cd doc a vs ns G Y ho hd hcd hmg hobj hints hlen hbits hg => by
    obtain ⟨K, KX, L⟩ := F w mg fa _ Y G.T.g hmg
    exact law_callG KX G.T.g G.T.b G.T.builtins G.T.nolimit hg G.T.bmain hobj hints (Nat.le_trans hlen hz) hlen hbits hr L
end G
set_option Elab.async false
set_option linter.all false
set_option maxRecDepth 100000
set_option maxHeartbeats 4000000
namespace G
open PySem PySem.Spec PyProof.Rows L2
section
variable {S : Sta} {B : Tabl} {φ : Fns} {lv : Nat} {X : Cx} {sc : Scope} {N : List Str} {E : XK} {pos : Pos}
/-- name = [..] on one line -/
theorem cs_setLc (i : Nat) (C : Cxt S B φ lv X sc N E) {fin : List D → Cells → Option Out} (hfin : FinOk S fin) {y : Str} {py : Pos} {elt tg iter : Expr} {ifs : List Expr} {scope : Scope} {spos : Pos} (own : List (Str × Nat)) {it tt el : SE} {g : Tg} (hi : PI X tg iter (tI S E it))
    (hg : ∀ (s : Shared) (H : Hp) (D : Addr) (cl : List (Str × Addr)) (fp : List Addr), PG (X.blk s H scope (compEnvC scope cl D X.env) fp) tg (tGW S (own.map (·.2)) g))
    (ht : ∀ (s : Shared) (H : Hp) (D : Addr) (cl : List (Str × Addr)) (fp : List Addr), PTs (X.blk s H scope (compEnvC scope cl D X.env) fp) ifs (tT S XF tt))
    (he : ∀ (s : Shared) (H : Hp) (D : Addr) (cl : List (Str × Addr)) (fp : List Addr), PE (X.blk s H scope (compEnvC scope cl D X.env) fp) elt (tD S XF el)) (hy : N[i]? = some y := by rfl) (hyl : sc.names.lookup y = some .local := by decide +kernel)
    (hsw : swapsWith (.ListComp elt [⟨tg, iter, ifs, 0⟩] scope pos) (some (.Name y py)) spos.line X.env = pure true := by rfl) (hok : blkC N sc scope own = true := by decide +kernel) (hs : ∀ x, foldedSetIterable iter X.env x = pure x := by intro _; rfl) :
    PS X (.Assign [.Name y py] (.ListComp elt [⟨tg, iter, ifs, 0⟩] scope pos) spos) (tS S E (asgS (lcE fin (own.map (·.2)) it g tt el) (nameG i))) :=
  (ps_setLc C.calm (by rw [C.hN]; exact C.nd) (by rw [C.hN]; exact hy) (by rw [C.hs]; exact hyl) hsw hi (by rw [C.hN, C.hs]; exact blkOk_by hok) hg ht he hs).imp fun Dn σ H q =>
    tD_lc (Q := fun x H1 => Dn.nx (σ.set i (some x)) H1) hfin (tS_bind (k := fun env d c1 => match nameG i d env c1 with
      | some (e2, c2) => some (.nx e2 c2)
      | none => none) q fun w env d c v H1 o R e dv k sr => by
        have k : some (SOut.nx (env.set i (some d)) c) = some o := k
        cases k
        exact sr w H1 _ (Tr.refl w H1) R (e.set i dv))
end
end G
set_option Elab.async false
set_option linter.all false
set_option maxRecDepth 100000
set_option maxHeartbeats 4000000
namespace G
open PySem PySem.Spec PyProof.Rows L2
section
variable {S : Sta} {B : Tabl} {φ : Fns} {lv : Nat} {sc : Scope} {N : List Str} {E : XK} {pos : Pos} {P : Program} {w : World} {K : PySem.W.Frag} {mg : Str → Option Value} {base : Heap}
theorem FnG.ar {nm : Str} {ps : List Str} {g : List D → Cells → Option Out} (F : FnG S P w K mg base g lv nm ps) : FnG S P w K mg base (arK ps.length g) lv nm ps := by
  obtain ⟨h1, h2, fd, h3, kb, hb, hr⟩ := F
  exact ⟨h1, h2, fd, h3, kb, hb, ⟨fun A outer s H args us vs wd ds c o Q E r1 r2 r3 r4 r5 r6 r7 r8 r9 r10 => hr.run A outer s H args us vs wd ds c o Q E r1 r2 r3 r4 r5 r6 r7 r8 (arK_ok r9).2 r10⟩⟩
/-- nothing is promised -/
theorem fnG_zero {nm qual : Str} {params : Arguments} {body : List Stmt} {at_ : Str × Option Str} {ps : List Str} (hK : K = S.K) (hmg : mg nm = some (.ref (He.ga S.K nm))) (hat : at_ = (nm, none))
    {fd : FuncData} (F : FunD K nm qual params body sc [] [] (He.fAd K at_) fd)
    (hkb : ∀ (kV doc pm : Value) (an : Option Addr) (cdv ct : Value), KB (PySem.W.fnOf nm qual params body sc .none kV doc pm an cdv ct) ps)
    (hbi : ∀ (kV doc pm : Value) (an : Option Addr) (cdv ct : Value) (us : List Value), us.length = ps.length → bindArgs (PySem.W.fnOf nm qual params body sc .none kV doc pm an cdv ct) ⟨us, []⟩ = pure (ps.zip us)) :
    FnG S P w K mg base (fun _ _ => none) lv nm ps := by
  have ea : He.fAd K at_ = He.ga S.K nm := by rw [hat, hK]; rfl
  have kp := F.kp
  rw [ea] at kp
  obtain ⟨oc, od, dV, kV, doc, pm, an, cdv, ct, osl, rfl, lk, hcd, hD, _⟩ := F.ex
  have hdV : dV = .none := by
    rcases hD with ⟨_, e⟩ | ⟨e, _⟩
    · exact e
    · exact absurd rfl e
  subst hdV
  exact ⟨hmg, kp, _, ⟨oc, od, osl, by rw [← ea]; exact lk⟩, hkb kV doc pm an cdv ct, hbi kV doc pm an cdv ct, ⟨fun A outer s H args us vs wd ds c o Q E r1 r2 r3 r4 r5 r6 r7 r8 r9 r10 => by cases r9⟩⟩
theorem fvZ_of {k : Nat} {nm : Str} {ps : List Str} {g0 : List D → Cells → Option Out} (hF : ∀ H v, S.F k H v → v = .ref (He.ga S.K nm)) (F : FnG S P w K mg base g0 lv nm ps) : FvOk S P w K mg base lv k (fun _ _ => none) where
  ref := fun H v h => ⟨_, hF H v h⟩
  fn := fun f H h hf hok hk => by
    cases hF _ _ hf
    obtain ⟨oc, od, fd, sl, e⟩ := F.fl
    exact ⟨oc, od, fd, sl, hk _ _ e⟩
  run := fun A outer s H us vs Q E f hr hgd e0 r ⟨wd, ds, c, o, R, hf, dv, hg, re⟩ => by cases hg
theorem fvLZ_of (L : LmD) {k : Nat} (hF : ∀ H v, S.F k H v → LamV L H v) : FvOk S P w K mg base lv k (fun _ _ => none) where
  ref := fun H v h => let ⟨f, c, e, _⟩ := hF H v h; ⟨f, e⟩
  fn := fun f H h hf hok _ => by
    obtain ⟨f', c, e, h1, _⟩ := hF H _ hf
    cases e
    obtain ⟨⟨od, sl, pm, ctv, q⟩, _, _⟩ := hok f _ h1
    exact ⟨_, od, _, sl, q⟩
  run := fun A outer s H us vs Q E f hr hgd e0 r ⟨wd, ds, c, o, R, hf, dv, hg, re⟩ => by cases hg
end
/-- of each entry -/
def AllE {α : Type} (p : Nat → α → Prop) : Nat → List α → Prop
  | _, [] => True
  | k, x :: r => p k x ∧ AllE p (k + 1) r
theorem allE_get {α : Type} {p : Nat → α → Prop} : ∀ {l : List α} {k i : Nat} {x : α}, AllE p k l → l[i]? = some x → p (k + i) x
  | [], _, _, _, _, h => by simp at h
  | y :: r, k, 0, x, h, e => by
    simp at e
    subst e
    exact h.1
  | y :: r, k, i + 1, x, h, e => by
    have q := allE_get (k := k + 1) (i := i) h.2 (by simpa using e)
    rw [show k + (i + 1) = k + 1 + i by omega]
    exact q
theorem allE_get0 {α : Type} {p : Nat → α → Prop} {l : List α} {i : Nat} {x : α} (h : AllE p 0 l) (e : l[i]? = some x) : p i x := by
  have q := allE_get h e
  rwa [Nat.zero_add] at q
section
variable {K : PySem.W.Frag} {base : Heap} {mg : Str → Option Value}
def CstOk (S : Sta) (mg : Str → Option Value) (nm : Str) (d : D) : Prop := ∃ u v, mg nm = some u ∧ RelV v u ∧ ∀ w, DV S w d v
theorem cst_int {S : Sta} {x : Str} {i : Int} (X : K.In base) (G : base.Ns mainGlobals mg) (c : (He.Fa.int x i).ok K = true) : CstOk S mg x (.int i) := by
  obtain ⟨t, h⟩ := He.int_ok X G c
  exact ⟨_, .int i, h, ⟨t, rfl⟩, fun w => dvInt⟩
theorem cst_str {S : Sta} {x z : Str} (X : K.In base) (G : base.Ns mainGlobals mg) (c : (He.Fa.str x z).ok K = true) : CstOk S mg x (.str z) := by
  obtain ⟨t, h⟩ := He.str_ok X G c
  exact ⟨_, .str z, h, ⟨t, rfl⟩, fun w => dvStr⟩
theorem cst_tup {S : Sta} {x : Str} {ds : List D} {vs : List He.Dv} (hK : S.K = K) (X : K.In base) (G : base.Ns mainGlobals mg) (c : (He.Fa.glo x).ok K = true) (h : He.tupB K x vs = true) (hd : ∀ w, DVs S w ds (vs.map (He.Dv.v K))) : CstOk S mg x (.tup ds) :=
  ⟨_, .ref (He.ga K x), He.glo_ok X G c, rfl, fun w => by
    simp only [DV]
    exact ⟨He.ga K x, _, rfl, by rw [hK]; exact He.tupB_ok h w.PH, hd w⟩⟩
theorem cst_fn {S : Sta} {x : Str} {k : Nat} (X : K.In base) (G : base.Ns mainGlobals mg) (c : (He.Fa.glo x).ok K = true) (h : ∀ H, S.F k H (.ref (He.ga K x))) : CstOk S mg x (.fn k) :=
  ⟨_, .ref (He.ga K x), He.glo_ok X G c, rfl, fun w => by simp only [DV]; exact h _⟩
theorem bis_ok {x : Str} {id : String} (X : K.In base) (G : base.Ns mainGlobals mg) (c : He.eqO (PySem.W.nsIn K mainGlobals x) (some (some (.builtin id))) = true) : mg x = some (.builtin id) := PySem.W.mg_of X G (He.eqO_ok c)
end
end G
set_option Elab.async false
set_option linter.all false
set_option maxRecDepth 100000
set_option maxHeartbeats 4000000
namespace G
open PySem PySem.Spec PyProof.Rows L2

/-! ### plain: what a piece of text reckons -/
abbrev FnT := List D → Cells → Option Out
/-- it reckons d, and changes nothing -/
def Pv (f : SE) (env : Ev) (c : Cells) (d : D) : Prop := f env c = some (.ok d c)
section
variable {f g t : SE} {env : Ev} {c c1 : Cells} {d x y z : D} {a b : Bool} {ds : List D} {s u : SS} {r : Option SOut}
theorem pv_var {i : Nat} (h : env[i]? = some (some d)) : Pv (varE i) env c d := by unfold Pv varE; rw [h]
theorem pv_c : Pv (cE d) env c d := rfl
theorem pv_e1 {op : D → Cells → Option Out} (h : Pv f env c x) (k : op x c = some (.ok d c)) : Pv (e1 op f) env c d := by
  show bindO (f env c) op = _
  rw [show f env c = _ from h]; exact k
theorem pv_e2 {op : D → D → Cells → Option Out} (h : Pv f env c x) (h2 : Pv g env c y) (k : op x y c = some (.ok d c)) : Pv (e2 op f g) env c d := by
  show bindO (f env c) (fun x c1 => bindO (g env c1) fun y c2 => op x y c2) = _
  rw [show f env c = _ from h]
  show bindO (g env c) _ = _
  rw [show g env c = _ from h2]; exact k
theorem pv_and (h : Pv f env c (.bl a)) (h2 : a = true → Pv g env c (.bl b)) : Pv (andE f g) env c (.bl (a && b)) := by
  show bindO (f env c) (andK g env) = _
  rw [show f env c = _ from h]
  cases a with
  | true => exact h2 rfl
  | false => rfl
theorem pv_or (h : Pv f env c (.bl a)) (h2 : a = false → Pv g env c (.bl b)) : Pv (orE f g) env c (.bl (a || b)) := by
  show bindO (f env c) (orK g env) = _
  rw [show f env c = _ from h]
  cases a with
  | false => exact h2 rfl
  | true => rfl
theorem pv_not (h : Pv f env c (.bl a)) : Pv (notE f) env c (.bl (!a)) := by
  show bindO (f env c) notK = _
  rw [show f env c = _ from h]
  rfl
theorem pv_if (h : Pv t env c (.bl a)) (h1 : a = true → Pv f env c x) (h2 : a = false → Pv g env c y) : Pv (ifE t f g) env c (if a then x else y) := by
  show bindO (t env c) (ifK f g env) = _
  rw [show t env c = _ from h]
  cases a with
  | true => exact h1 rfl
  | false => exact h2 rfl
theorem pv_nil : Pv nilA env c (.tup []) := rfl
theorem pv_cons (h : Pv f env c x) (h2 : Pv g env c (.tup ds)) : Pv (consA f g) env c (.tup (x :: ds)) := by
  show bindO (f env c) (fun d c1 => bindO (g env c1) (consK d)) = _
  rw [show f env c = _ from h]
  show bindO (g env c) _ = _
  rw [show g env c = _ from h2]; rfl
theorem pv_b {k : FnT} (h : Pv f env c (.tup ds)) (h2 : k ds c = some (.ok d c)) : Pv (bE k f) env c d := by
  show bindO (f env c) (bK k) = _
  rw [show f env c = _ from h]; exact h2
theorem arK_eq {n : Nat} {k : FnT} (h : ds.length = n) : arK n k ds c = k ds c := if_pos h
theorem pv_call {n : Nat} {k : FnT} (h : Pv f env c (.tup ds)) (hl : ds.length = n) (h2 : k ds c = some (.ok d c)) : Pv (bE (arK n k) f) env c d := pv_b h ((arK_eq hl).trans h2)
theorem pv_tup (h : Pv f env c (.tup ds)) (hz : sz ds.length = true) : Pv (e1 tupK f) env c (.tup ds) := pv_e1 h (if_pos hz)
theorem pv_lst (h : Pv f env c (.tup ds)) (hz : sz ds.length = true) : Pv (e1 lstK f) env c (.lst ds) := pv_e1 h (if_pos hz)
theorem ret_of (h : Pv f env c d) : retS f env c = some (.ret d c) := by
  show bindS (f env c) _ = _
  rw [show f env c = _ from h]; rfl
theorem seq_nx {e1 : Ev} (h : s env c = some (.nx e1 c1)) : seqS s u env c = u e1 c1 := by unfold seqS; rw [h]
theorem seq_ret (h : s env c = some (.ret d c1)) : seqS s u env c = some (.ret d c1) := by unfold seqS; rw [h]
theorem if_of (h : Pv t env c (.bl a)) : ifS t s u env c = if a then s env c else u env c := by
  show bindS (t env c) _ = _
  rw [show t env c = _ from h]
  cases a <;> rfl
theorem asg_of {tg : Tg} {e2 : Ev} {c2 : Cells} (h : Pv f env c d) (k : tg d env c = some (e2, c2)) : asgS f tg env c = some (.nx e2 c2) := by
  show bindS (f env c) _ = _
  rw [show f env c = _ from h]
  show (match tg d env c with | some (e2, c2) => some (SOut.nx e2 c2) | none => none) = _
  rw [k]
theorem drop_of (h : Pv f env c d) : dropS f env c = some (.nx env c) := by
  show bindS (f env c) _ = _
  rw [show f env c = _ from h]; rfl
/-- if t: return False, then the rest -/
theorem guard_of (h : Pv t env c (.bl a)) (k : a = false → u env c = some (.ret (.bl b) c)) : seqS (ifS t (retS (cE (.bl false))) skipS) u env c = some (.ret (.bl (!a && b)) c) := by
  cases a with
  | true => exact seq_ret ((if_of h).trans (ret_of pv_c))
  | false => exact (seq_nx (if_of h)).trans (k rfl)
theorem run_ret {N : List Str} {b : SS} (h : b (startE N ds) c = some (.ret d c)) : runB finF N b ds c = some (.ok d c) := by
  unfold runB
  rw [h]
  exact if_pos rfl
theorem run_nx {N : List Str} {b : SS} {e1 : Ev} (h : b (startE N ds) c = some (.nx e1 c)) : runB finF N b ds c = some (.ok .non c) := by
  unfold runB
  rw [h]
  exact if_pos rfl
theorem runL_ret {N : List Str} {n : Nat} {el : SE} (hl : ds.length = n) (h : Pv el (startE N ds) c d) : runL finF N n el ds c = some (.ok d c) := by
  unfold runL
  rw [if_pos hl, show el _ _ = _ from h]
  exact if_pos rfl
end
/-! ### data -/
def nf : D → Bool
  | .fn _ => false
  | _ => true
def isKi : Ki → D → Bool
  | .int, .int _ => true
  | .int, .bl _ => true
  | .bl, .bl _ => true
  | .str, .str _ => true
  | .tup, .tup _ => true
  | .lst, .lst _ => true
  | .lst, .scr _ => true
  | .lst, .cell _ => true
  | _, _ => false
theorem isi_of {k : Ki} {v : D} {c : Cells} (h : nf v = true) : isiK k v c = some (.ok (.bl (isKi k v)) c) := by
  cases v <;> cases k <;> first | rfl | cases h
mutual
/-- data: nested so deep, of a size that may be handled -/
def gd : Nat → D → Bool
  | _, .non => true
  | _, .bl _ => true
  | _, .int _ => true
  | _, .str s => PyData.strOk s && decide (s.length ≤ 10000)
  | n + 1, .tup xs => gds n xs && decide (xs.length ≤ 10000)
  | n + 1, .lst xs => gds n xs && decide (xs.length ≤ 10000)
  | _, _ => false
def gds : Nat → List D → Bool
  | _, [] => true
  | n, x :: xs => gd n x && gds n xs
end
mutual
theorem gd_fit : ∀ (n : Nat) (d : D), gd n d = true → fit n d = true
  | n, .non, _ => by cases n <;> rfl
  | n, .bl _, _ => by cases n <;> rfl
  | n, .int _, _ => by cases n <;> rfl
  | n, .str s, h => by
    have h' : (PyData.strOk s && decide (s.length ≤ 10000)) = true := by cases n <;> exact h
    simp only [Bool.and_eq_true] at h'
    cases n <;> exact h'.1
  | n + 1, .tup xs, h => by
    simp only [gd, Bool.and_eq_true] at h
    exact gds_fit n xs h.1
  | n + 1, .lst xs, h => by
    simp only [gd, Bool.and_eq_true] at h
    exact gds_fit n xs h.1
  | 0, .tup _, h => by cases h
  | 0, .lst _, h => by cases h
  | n, .scr _, h => by cases n <;> cases h
  | n, .cell _, h => by cases n <;> cases h
  | n, .fn _, h => by cases n <;> cases h
theorem gds_fit : ∀ (n : Nat) (ds : List D), gds n ds = true → fits n ds = true
  | n, [], _ => by cases n <;> rfl
  | n, d :: ds, h => by
    simp only [gds, Bool.and_eq_true] at h
    simp only [fits, gd_fit n d h.1, gds_fit n ds h.2, Bool.and_self]
end
mutual
theorem fit_mono : ∀ (n m : Nat) (d : D), n ≤ m → fit n d = true → fit m d = true
  | n, m, .non, _, _ => by cases m <;> rfl
  | n, m, .bl _, _, _ => by cases m <;> rfl
  | n, m, .int _, _, _ => by cases m <;> rfl
  | n, m, .str s, _, h => by
    have h' : PyData.strOk s = true := by cases n <;> exact h
    cases m <;> exact h'
  | n + 1, m, .tup xs, l, h => by
    obtain ⟨k, rfl⟩ : ∃ k, m = k + 1 := ⟨m - 1, by omega⟩
    exact fits_mono n k xs (by omega) h
  | n + 1, m, .lst xs, l, h => by
    obtain ⟨k, rfl⟩ : ∃ k, m = k + 1 := ⟨m - 1, by omega⟩
    exact fits_mono n k xs (by omega) h
  | 0, m, .tup _, _, h => by cases h
  | 0, m, .lst _, _, h => by cases h
  | n, m, .scr _, _, h => by cases n <;> cases h
  | n, m, .cell _, _, h => by cases n <;> cases h
  | n, m, .fn _, _, h => by cases n <;> cases h
theorem fits_mono : ∀ (n m : Nat) (ds : List D), n ≤ m → fits n ds = true → fits m ds = true
  | n, m, [], _, _ => by cases m <;> rfl
  | n, m, d :: ds, l, h => by
    simp only [fits, Bool.and_eq_true] at h
    simp only [fits, fit_mono n m d l h.1, fits_mono n m ds l h.2, Bool.and_self]
end
theorem gd_nf {n : Nat} {d : D} (h : gd n d = true) : nf d = true := by
  cases d <;> first | rfl | (cases n <;> cases h)
theorem gd_rs {n : Nat} {d : D} {c : Cells} (h : gd n d = true) : rs c d = d := by
  cases d <;> first | rfl | (cases n <;> cases h)
theorem gd60 {n : Nat} {d : D} {c : Cells} (h : gd n d = true) (hn : n ≤ 60) : fit 60 (rs c d) = true := by rw [gd_rs h]; exact fit_mono n 60 d hn (gd_fit n d h)
theorem eq_of {n m : Nat} {x y : D} {c : Cells} (h1 : gd n x = true) (h2 : gd m y = true) (hn : n ≤ 60 := by decide) (hm : m ≤ 60 := by decide) : eqK x y c = some (.ok (.bl (eqD x y)) c) := by
  unfold eqK
  rw [gd60 h1 hn, gd60 h2 hm, gd_rs h1, gd_rs h2]
  rfl
theorem ne_of {n m : Nat} {x y : D} {c : Cells} (h1 : gd n x = true) (h2 : gd m y = true) (hn : n ≤ 60 := by decide) (hm : m ≤ 60 := by decide) : neK x y c = some (.ok (.bl (!eqD x y)) c) := by
  unfold neK
  rw [gd60 h1 hn, gd60 h2 hm, gd_rs h1, gd_rs h2]
  rfl
theorem gds_get {n : Nat} : ∀ {ds : List D} {i : Nat} {d : D}, gds n ds = true → ds[i]? = some d → gd n d = true
  | d :: ds, 0, _, h, e => by
    simp only [gds, Bool.and_eq_true] at h
    simp at e
    rw [← e]; exact h.1
  | d :: ds, i + 1, x, h, e => by
    simp only [gds, Bool.and_eq_true] at h
    exact gds_get (ds := ds) (i := i) h.2 (by simpa using e)
  | [], _, _, _, e => by simp at e
theorem gds_mem {n : Nat} {ds : List D} {d : D} (h : gds n ds = true) (e : d ∈ ds) : gd n d = true := by
  obtain ⟨i, hi⟩ := List.mem_iff_getElem?.mp e
  exact gds_get h hi
theorem gds_of {n : Nat} : ∀ {ds : List D}, (∀ d ∈ ds, gd n d = true) → gds n ds = true
  | [], _ => by cases n <;> rfl
  | d :: ds, h => by
    simp only [gds, h d (by simp), gds_of (ds := ds) fun x hx => h x (by simp [hx]), Bool.and_self]
/-! ### a walk that changes nothing -/
theorem lc_pure {tg : Tg} {tt el : SE} {envw : Ev} {c : Cells} (fn : D → D) : ∀ (items acc : List D), (∀ x ∈ items, ∃ e1, tg x envw c = some (e1, c) ∧ Pv tt e1 c (.bl true) ∧ Pv el e1 c (fn x)) → acc.length + items.length ≤ 100000 → lcL tg tt el envw items acc c = some (acc ++ items.map fn, c)
  | [], acc, _, _ => by simp [lcL]
  | x :: xs, acc, h, hl => by
    obtain ⟨e1, h1, h2, h3⟩ := h x (by simp)
    have st : lcStep tg tt el envw x acc c = some (acc ++ [fn x], c) := by
      unfold lcStep
      rw [h1]
      simp only [show tt e1 c = _ from h2, show el e1 c = _ from h3]
      exact if_pos (decide_eq_true (by simp at hl; omega))
    show (match lcStep tg tt el envw x acc c with | some (acc1, c1) => lcL tg tt el envw xs acc1 c1 | none => none) = _
    rw [st]
    show lcL tg tt el envw xs (acc ++ [fn x]) c = _
    rw [lc_pure fn xs (acc ++ [fn x]) (fun y hy => h y (by simp [hy])) (by simp at hl ⊢; omega)]
    simp
theorem pv_lc {it : SE} {tg : Tg} {tt el : SE} {env : Ev} {c : Cells} {vs : List Nat} {items : List D} (fn : D → D) (hi : Pv it env c (.tup items)) (h : ∀ x ∈ items, ∃ e1, tg x (wipeE env vs) c = some (e1, c) ∧ Pv tt e1 c (.bl true) ∧ Pv el e1 c (fn x)) (hl : items.length ≤ 100000) :
    Pv (lcE endL vs it tg tt el) env c (.lst (items.map fn)) := by
  show bindO (it env c) (lcK endL vs tg tt el env) = _
  rw [show it env c = _ from hi]
  show (match lcL tg tt el (wipeE env vs) items [] c with | some (acc, c1) => endL acc c1 | none => none) = _
  rw [lc_pure fn items [] h (by simpa using hl)]
  simp [endL]
theorem bools_map {α : Type} {p : α → Bool} : ∀ (l : List α), bools (l.map fun x => .bl (p x)) = some (l.map p)
  | [] => rfl
  | x :: l => by
    show (bools (l.map fun x => .bl (p x))).map (p x :: ·) = _
    rw [bools_map l]; rfl
theorem all_of {α : Type} {p : α → Bool} {l : List α} {c : Cells} : allK [.lst (l.map fun x => .bl (p x))] c = some (.ok (.bl (l.all p)) c) := by
  unfold allK
  show (match bools (l.map fun x => D.bl (p x)) with | some bs => okb (bs.all id) c | none => none) = _
  rw [bools_map]
  show some (Out.ok (.bl ((l.map p).all id)) c) = _
  rw [List.all_map]; rfl
theorem any_of {α : Type} {p : α → Bool} {l : List α} {c : Cells} : anyK [.lst (l.map fun x => .bl (p x))] c = some (.ok (.bl (l.any p)) c) := by
  unfold anyK
  show (match bools (l.map fun x => D.bl (p x)) with | some bs => okb (bs.any id) c | none => none) = _
  rw [bools_map]
  show some (Out.ok (.bl ((l.map p).any id)) c) = _
  rw [List.any_map]; rfl
/-- all([.. for x in items]) -/
theorem pv_all {it : SE} {tg : Tg} {el : SE} {env : Ev} {c : Cells} {vs : List Nat} {items : List D} (p : D → Bool) (hi : Pv it env c (.tup items)) (h : ∀ x ∈ items, ∃ e1, tg x (wipeE env vs) c = some (e1, c) ∧ Pv el e1 c (.bl (p x))) (hl : items.length ≤ 100000) :
    Pv (bE allK (consA (lcE endL vs it tg yesE el) nilA)) env c (.bl (items.all p)) :=
  pv_b (pv_cons (pv_lc (fun x => .bl (p x)) hi (fun x hx => let ⟨e1, h1, h2⟩ := h x hx; ⟨e1, h1, pv_c, h2⟩) hl) pv_nil) all_of
theorem pv_any {it : SE} {tg : Tg} {el : SE} {env : Ev} {c : Cells} {vs : List Nat} {items : List D} (p : D → Bool) (hi : Pv it env c (.tup items)) (h : ∀ x ∈ items, ∃ e1, tg x (wipeE env vs) c = some (e1, c) ∧ Pv el e1 c (.bl (p x))) (hl : items.length ≤ 100000) :
    Pv (bE anyK (consA (lcE endL vs it tg yesE el) nilA)) env c (.bl (items.any p)) :=
  pv_b (pv_cons (pv_lc (fun x => .bl (p x)) hi (fun x hx => let ⟨e1, h1, h2⟩ := h x hx; ⟨e1, h1, pv_c, h2⟩) hl) pv_nil) any_of
mutual
theorem gd_mono : ∀ (n m : Nat) (d : D), n ≤ m → gd n d = true → gd m d = true
  | n, m, .non, _, _ => by cases m <;> rfl
  | n, m, .bl _, _, _ => by cases m <;> rfl
  | n, m, .int _, _, _ => by cases m <;> rfl
  | n, m, .str s, _, h => by
    have h' : (PyData.strOk s && decide (s.length ≤ 10000)) = true := by cases n <;> exact h
    cases m <;> exact h'
  | n + 1, m, .tup xs, l, h => by
    obtain ⟨k, rfl⟩ : ∃ k, m = k + 1 := ⟨m - 1, by omega⟩
    simp only [gd, Bool.and_eq_true] at h ⊢
    exact ⟨gds_mono n k xs (by omega) h.1, h.2⟩
  | n + 1, m, .lst xs, l, h => by
    obtain ⟨k, rfl⟩ : ∃ k, m = k + 1 := ⟨m - 1, by omega⟩
    simp only [gd, Bool.and_eq_true] at h ⊢
    exact ⟨gds_mono n k xs (by omega) h.1, h.2⟩
  | 0, m, .tup _, _, h => by cases h
  | 0, m, .lst _, _, h => by cases h
  | n, m, .scr _, _, h => by cases n <;> cases h
  | n, m, .cell _, _, h => by cases n <;> cases h
  | n, m, .fn _, _, h => by cases n <;> cases h
theorem gds_mono : ∀ (n m : Nat) (ds : List D), n ≤ m → gds n ds = true → gds m ds = true
  | n, m, [], _, _ => by cases m <;> rfl
  | n, m, d :: ds, l, h => by
    simp only [gds, Bool.and_eq_true] at h ⊢
    exact ⟨gd_mono n m d l h.1, gds_mono n m ds l h.2⟩
end
theorem gd_up {n m : Nat} {d : D} (h : gd n d = true) (l : n ≤ m := by decide) : gd m d = true := gd_mono n m d l h
theorem gd_in {n : Nat} {xs : List D} (h : gd (n + 1) (.tup xs) = true) : ∀ x ∈ xs, gd n x = true := fun x hx => by
  simp only [gd, Bool.and_eq_true] at h
  exact gds_mem h.1 hx
theorem gd_len {n : Nat} {xs : List D} (h : gd (n + 1) (.tup xs) = true) : xs.length ≤ 10000 := by
  simp only [gd, Bool.and_eq_true, decide_eq_true_eq] at h
  exact h.2
theorem gd_str {n : Nat} {s : Str} (h : gd n (.str s) = true) : s.length ≤ 10000 := by
  have h' : (PyData.strOk s && decide (s.length ≤ 10000)) = true := by cases n <;> exact h
  simp only [Bool.and_eq_true, decide_eq_true_eq] at h'
  exact h'.2
/-- the length of a tuple, None of other things -/
def tupLen : D → Option Nat
  | .tup xs => some xs.length
  | _ => none
theorem tup_of {v : D} {n : Nat} (h : tupLen v = some n) : ∃ xs, v = .tup xs ∧ xs.length = n := by
  cases v with
  | tup xs => exact ⟨xs, rfl, Option.some.inj h⟩
  | _ => cases h
theorem len1 {α : Type} {xs : List α} (h : xs.length = 1) : ∃ a, xs = [a] := by
  match xs, h with
  | [a], _ => exact ⟨a, rfl⟩
theorem len2 {α : Type} {xs : List α} (h : xs.length = 2) : ∃ a b, xs = [a, b] := by
  match xs, h with
  | [a, b], _ => exact ⟨a, b, rfl⟩
theorem len4 {α : Type} {xs : List α} (h : xs.length = 4) : ∃ a b c d, xs = [a, b, c, d] := by
  match xs, h with
  | [a, b, c, d], _ => exact ⟨a, b, c, d, rfl⟩
theorem len5 {α : Type} {xs : List α} (h : xs.length = 5) : ∃ a b c d e, xs = [a, b, c, d, e] := by
  match xs, h with
  | [a, b, c, d, e], _ => exact ⟨a, b, c, d, e, rfl⟩
theorem len7 {α : Type} {xs : List α} (h : xs.length = 7) : ∃ a b c d e f g, xs = [a, b, c, d, e, f, g] := by
  match xs, h with
  | [a, b, c, d, e, f, g], _ => exact ⟨a, b, c, d, e, f, g, rfl⟩
/-- a loop that goes through, or ends at the first thing that is bad -/
theorem forL_find {tg : Tg} {b : SS} {c : Cells} {bad : D → Bool} {res : D → D} (I : Ev → Prop) : ∀ (items : List D) (env : Ev), I env → (∀ (pre : List D) (x : D) (post : List D) (e : Ev), items = pre ++ x :: post → (∀ y ∈ pre, bad y = false) → I e → ∃ e1, tg x e c = some (e1, c) ∧ ((bad x = false ∧ ∃ e2, b e1 c = some (.nx e2 c) ∧ I e2) ∨ (bad x = true ∧ b e1 c = some (.ret (res x) c)))) →
    (∃ x, items.find? bad = some x ∧ forL tg b items env c = some (.ret (res x) c)) ∨ (items.find? bad = none ∧ ∃ e, I e ∧ forL tg b items env c = some (.nx e c))
  | [], env, hI, _ => .inr ⟨rfl, env, hI, rfl⟩
  | x :: xs, env, hI, h => by
    obtain ⟨e1, h1, h2⟩ := h [] x xs env rfl (fun y hy => by cases hy) hI
    have st : forL tg b (x :: xs) env c = turnB (b e1 c) (forL tg b xs) := by
      show (match tg x env c with | some (e1, c1) => turnB (b e1 c1) (forL tg b xs) | none => none) = _
      rw [h1]
    rcases h2 with ⟨hb, e2, h3, h4⟩ | ⟨hb, h3⟩
    · have st2 : forL tg b (x :: xs) env c = forL tg b xs e2 c := by rw [st, h3]; rfl
      rw [st2, List.find?_cons_of_neg (by rw [hb]; simp)]
      exact forL_find I xs e2 h4 fun pre y post e he hp hI' => h (x :: pre) y post e (by rw [he]; rfl) (fun z hz => by
        rcases List.mem_cons.mp hz with q | q
        · rw [q]; exact hb
        · exact hp z q) hI'
    · refine .inl ⟨x, List.find?_cons_of_pos hb, ?_⟩
      rw [st, h3]; rfl
theorem for_of {it : SE} {tg : Tg} {b : SS} {env : Ev} {c : Cells} {items : List D} (h : Pv it env c (.tup items)) : forS it tg b env c = forL tg b items env c := by
  show bindS (it env c) (forK tg b env) = _
  rw [show it env c = _ from h]; rfl
theorem enumD_at {xs : List D} {i : Nat} {x : D} (h : xs[i]? = some x) : (enumD xs)[i]? = some (pairD (.int (i : Nat)) x) := by
  unfold enumD
  rw [List.getElem?_map, List.getElem?_zipIdx, h]
  simp
theorem enumD_split {xs pre post : List D} {x : D} (h : enumD xs = pre ++ x :: post) : ∃ y, xs[pre.length]? = some y ∧ x = pairD (.int (pre.length : Nat)) y ∧ ∀ j z, j < pre.length → xs[j]? = some z → pairD (.int (j : Nat)) z ∈ pre := by
  have hx : (enumD xs)[pre.length]? = some x := by rw [h]; simp
  obtain ⟨y, h1, h2⟩ := enumD_get hx
  refine ⟨y, h1, h2, fun j z hj hz => ?_⟩
  have := enumD_at hz
  rw [h, List.getElem?_append_left hj] at this
  exact List.mem_of_getElem? this
theorem cut_take {xs : List D} {i : Nat} (h : i ≤ xs.length) : cutD xs none (some (i : Int)) = xs.take i := by
  unfold cutD
  rw [HT.sIx_none, HT.sIx_nat, List.drop_zero, Nat.sub_zero, Nat.min_eq_left h]
theorem cut_drop {xs : List D} {i : Nat} : cutD xs (some (i : Int)) none = xs.drop i := by
  unfold cutD
  rw [HT.sIx_none, HT.sIx_nat]
  by_cases h : i ≤ xs.length
  · rw [Nat.min_eq_left h]
    exact List.take_of_length_le (by simp)
  · rw [Nat.min_eq_right (by omega)]
    rw [List.drop_eq_nil_of_le (Nat.le_refl _), List.drop_eq_nil_of_le (by omega)]
    simp
theorem at_last {α : Type} {xs : List α} {x : α} (h : xs.getLast? = some x) : atI xs (-1) = some x := by
  have hl : xs ≠ [] := fun e => by rw [e] at h; cases h
  have hp : 0 < xs.length := List.length_pos_iff.mpr hl
  unfold atI ixN
  rw [if_neg (by decide), if_pos (by omega)]
  show xs[(-1 + (xs.length : Int)).toNat]? = some x
  rw [show (-1 + (xs.length : Int)).toNat = xs.length - 1 by omega, ← List.getLast?_eq_getElem?]
  exact h
theorem pv_last {f : SE} {env : Ev} {c : Cells} {xs : List D} {x : D} (h : Pv f env c (.tup xs)) (hx : xs.getLast? = some x) : Pv (e2 ixK f (e1 negK (cE (.int 1)))) env c x := by
  refine pv_e2 h (pv_e1 (x := .int 1) (d := .int (-1)) pv_c rfl) ?_
  show (match atI xs (-1) with | some d => okd d c | none => none) = _
  rw [at_last hx]; rfl
theorem pv_slice {f : SE} {lo hi : Option SE} {env : Ev} {c : Cells} {x : D} {l h : Option Int} {d : D} (hf : Pv f env c x) (hl : match lo, l with
  | none, none => True
  | some f, some i => Pv f env c (.int i)
  | _, _ => False) (hh : match hi, h with
  | none, none => True
  | some f, some i => Pv f env c (.int i)
  | _, _ => False) (k : slK x l h c = some (.ok d c)) : Pv (slE f lo hi) env c d := by
  show bindO (f env c) (fun x c1 => partB lo env c1 fun l c2 => partB hi env c2 fun h c3 => slK x l h c3) = _
  rw [show f env c = _ from hf]
  show partB lo env c (fun l c2 => partB hi env c2 fun h c3 => slK x l h c3) = _
  have h2 : ∀ l, slK x l h c = some (.ok d c) → partB hi env c (fun h c3 => slK x l h c3) = some (.ok d c) := fun l k => by
    match hi, h, hh with
    | none, none, _ => exact k
    | some g, some i, hh =>
      show bindO (g env c) _ = _
      rw [show g env c = _ from hh]
      exact k
  match lo, l, hl with
  | none, none, _ => exact h2 none k
  | some g, some i, hl =>
    show bindO (g env c) _ = _
    rw [show g env c = _ from hl]
    exact h2 (some i) k
theorem len_pos_of {xs : List D} {i : Nat} {x : D} (h : xs[i]? = some x) : i < xs.length := (List.getElem?_eq_some_iff.mp h).1
theorem pv_fv {φ : Fns} {i k : Nat} {f : SE} {env : Ev} {c : Cells} {ds : List D} {d : D} (h : env[i]? = some (some (.fn k))) (ha : Pv f env c (.tup ds)) (hc : φ k ds c = some (.ok d c)) : Pv (fvE φ i f) env c d := by
  unfold Pv fvE
  rw [h]
  show bindO (f env c) (bK (φ k)) = _
  rw [show f env c = _ from ha]
  exact hc
theorem gds_take {n i : Nat} {xs : List D} (h : gds n xs = true) : gds n (xs.take i) = true := gds_of fun d hd => gds_mem h (List.mem_of_mem_take hd)
theorem gd_take {n i : Nat} {xs : List D} (h : gd n (.tup xs) = true) : gd n (.tup (xs.take i)) = true := by
  cases n with
  | zero => cases h
  | succ n =>
    simp only [gd, Bool.and_eq_true, decide_eq_true_eq] at h ⊢
    exact ⟨gds_take h.1, by rw [List.length_take]; omega⟩
theorem eqD_nil {xs : List D} : eqD (.tup xs) (.tup []) = xs.isEmpty := by cases xs <;> rfl
theorem eqD_nilL {xs : List D} : eqD (.lst xs) (.lst []) = xs.isEmpty := by cases xs <;> rfl
end G
set_option Elab.async false
set_option linter.all false
set_option maxRecDepth 100000
set_option maxHeartbeats 4000000
namespace G
open PySem PySem.Spec PyProof.Rows L2
section
variable {f g t : SE} {env : Ev} {c c1 : Cells} {d x y z : D} {a b : Bool} {ds : List D} {s u : SS} {i j : Int}
theorem rs_get {n : Nat} {l : List D} (h : c[n]? = some l) : rs c (.cell n) = .lst l := by
  show (match c[n]? with | some l => D.lst l | none => .cell n) = _
  rw [h]
theorem mulOkR (h1 : -(2 ^ 64) < j) (h2 : j < 2 ^ 64) : mulOk i j = true := by
  unfold mulOk
  rw [decide_eq_true h1, decide_eq_true h2]
  simp
theorem mulOkL (h1 : -(2 ^ 64) < i) (h2 : i < 2 ^ 64) : mulOk i j = true := by
  unfold mulOk
  rw [decide_eq_true h1, decide_eq_true h2]
  simp
theorem pv_add (h : Pv f env c (.int i)) (h2 : Pv g env c (.int j)) : Pv (e2 addK f g) env c (.int (i + j)) := pv_e2 h h2 rfl
theorem pv_sub (h : Pv f env c (.int i)) (h2 : Pv g env c (.int j)) : Pv (e2 subK f g) env c (.int (i - j)) := pv_e2 h h2 rfl
theorem pv_mul (h : Pv f env c (.int i)) (h2 : Pv g env c (.int j)) (k : mulOk i j = true) : Pv (e2 mulK f g) env c (.int (i * j)) := pv_e2 h h2 (if_pos k)
theorem pv_mod (h : Pv f env c (.int i)) (h2 : Pv g env c (.int j)) (k : j ≠ 0) : Pv (e2 modK f g) env c (.int (i.fmod j)) := pv_e2 h h2 (if_pos (decide_eq_true k))
theorem pv_div (h : Pv f env c (.int i)) (h2 : Pv g env c (.int j)) (k : divOk j = true) : Pv (e2 divK f g) env c (.int (i.fdiv j)) := pv_e2 h h2 (if_pos k)
theorem pv_int (h : Pv f env c (.int i)) : Pv (bE intK (consA f nilA)) env c (.int i) := pv_b (pv_cons h pv_nil) rfl
theorem pv_cix {n : Nat} {l : List D} (h : Pv f env c (.cell n)) (h2 : Pv g env c (.int i)) (hc : c[n]? = some l) (hz : atI l i = some z) : Pv (e2 ixK f g) env c z := by
  refine pv_e2 h h2 ?_
  show (match sview c (.cell n) with
    | some xs => (match atI xs i with
      | some d => okd d c
      | none => none)
    | none => none) = _
  unfold sview
  rw [rs_get hc]
  show (match atI l i with | some d => okd d c | none => none) = _
  rw [hz]; rfl
theorem subG_of {fo fi : SE} {n k : Nat} {l : List D} (h : Pv fo env c (.cell n)) (h2 : Pv fi env c (.int i)) (hc : c[n]? = some l) (hk : ixN l.length i = some k) : subG fo fi d env c = some (env, c.set n (l.set k d)) := by
  unfold subG
  rw [show fo env c = _ from h]
  show (match fi env c with
    | some (.ok (.int i) c2) => (match c2[n]? with
      | some l => (match ixN l.length i with
        | some j => some (env, c2.set n (l.set j d))
        | none => none)
      | none => none)
    | _ => none) = _
  rw [show fi env c = _ from h2]
  show (match c[n]? with
      | some l => (match ixN l.length i with
        | some j => some (env, c.set n (l.set j d))
        | none => none)
      | none => none) = _
  rw [hc]
  show (match ixN l.length i with
        | some j => some (env, c.set n (l.set j d))
        | none => none) = _
  rw [hk]
theorem run_retC {N : List Str} {b : SS} (h : b (startE N ds) c = some (.ret d c1)) (hl : c1.length = c.length) : runB finF N b ds c = some (.ok d c1) := by
  unfold runB
  rw [h]
  exact if_pos hl
/-- it reckons d, and the cells are c1 then -/
def Px (f : SE) (env : Ev) (c : Cells) (d : D) (c1 : Cells) : Prop := f env c = some (.ok d c1)
variable {c2 : Cells}
theorem Pv.px (h : Pv f env c d) : Px f env c d c := h
theorem px_e1 {op : D → Cells → Option Out} (h : Px f env c x c1) (k : op x c1 = some (.ok d c2)) : Px (e1 op f) env c d c2 := by
  show bindO (f env c) op = _
  rw [show f env c = _ from h]; exact k
theorem px_e2 {op : D → D → Cells → Option Out} {c3 : Cells} (h : Px f env c x c1) (h2 : Px g env c1 y c2) (k : op x y c2 = some (.ok d c3)) : Px (e2 op f g) env c d c3 := by
  show bindO (f env c) (fun x c1 => bindO (g env c1) fun y c2 => op x y c2) = _
  rw [show f env c = _ from h]
  show bindO (g env c1) _ = _
  rw [show g env c1 = _ from h2]; exact k
theorem px_nil : Px nilA env c (.tup []) c := rfl
theorem px_cons (h : Px f env c x c1) (h2 : Px g env c1 (.tup ds) c2) : Px (consA f g) env c (.tup (x :: ds)) c2 := by
  show bindO (f env c) (fun d c1 => bindO (g env c1) (consK d)) = _
  rw [show f env c = _ from h]
  show bindO (g env c1) _ = _
  rw [show g env c1 = _ from h2]; rfl
theorem px_b {k : FnT} (h : Px f env c (.tup ds) c1) (h2 : k ds c1 = some (.ok d c2)) : Px (bE k f) env c d c2 := by
  show bindO (f env c) (bK k) = _
  rw [show f env c = _ from h]; exact h2
theorem px_call {n : Nat} {k : FnT} (h : Px f env c (.tup ds) c1) (hl : ds.length = n) (h2 : k ds c1 = some (.ok d c2)) : Px (bE (arK n k) f) env c d c2 := px_b h ((arK_eq hl).trans h2)
theorem px_tup (h : Px f env c (.tup ds) c1) (hz : sz ds.length = true) : Px (e1 tupK f) env c (.tup ds) c1 := px_e1 h (if_pos hz)
theorem ret_ofX (h : Px f env c d c1) : retS f env c = some (.ret d c1) := by
  show bindS (f env c) _ = _
  rw [show f env c = _ from h]; rfl
theorem asg_ofX {tg : Tg} {e2 : Ev} {c2 : Cells} (h : Px f env c d c1) (k : tg d env c1 = some (e2, c2)) : asgS f tg env c = some (.nx e2 c2) := by
  show bindS (f env c) _ = _
  rw [show f env c = _ from h]
  show (match tg d env c1 with | some (e2, c2) => some (SOut.nx e2 c2) | none => none) = _
  rw [k]
theorem drop_ofX (h : Px f env c d c1) : dropS f env c = some (.nx env c1) := by
  show bindS (f env c) _ = _
  rw [show f env c = _ from h]; rfl
theorem if_ofX (h : Px t env c (.bl a) c1) : ifS t s u env c = if a then s env c1 else u env c1 := by
  show bindS (t env c) _ = _
  rw [show t env c = _ from h]
  cases a <;> rfl
theorem for_ofX {it : SE} {tg : Tg} {b : SS} {items : List D} (h : Px it env c (.tup items) c1) : forS it tg b env c = forL tg b items env c1 := by
  show bindS (it env c) (forK tg b env) = _
  rw [show it env c = _ from h]; rfl
/-- a loop that goes on or is left -/
theorem forL_inv {tg : Tg} {b : SS} (I : List D → Ev → Cells → Prop) : ∀ (items : List D) (env : Ev) (c : Cells), I items env c →
    (∀ x rest e c, I (x :: rest) e c → ∃ e1 c1, tg x e c = some (e1, c1) ∧ ∃ e2 c2, (b e1 c1 = some (.nx e2 c2) ∧ I rest e2 c2) ∨ (b e1 c1 = some (.bk e2 c2) ∧ I [] e2 c2)) →
    ∃ e' c', forL tg b items env c = some (.nx e' c') ∧ I [] e' c'
  | [], env, c, hI, _ => ⟨env, c, rfl, hI⟩
  | x :: xs, env, c, hI, h => by
    obtain ⟨e1, c1, h1, e2, c2, h2⟩ := h x xs env c hI
    have st : forL tg b (x :: xs) env c = turnB (b e1 c1) (forL tg b xs) := by
      show (match tg x env c with | some (e1, c1) => turnB (b e1 c1) (forL tg b xs) | none => none) = _
      rw [h1]
    rcases h2 with ⟨h2, h3⟩ | ⟨h2, h3⟩
    · rw [st, h2]
      exact forL_inv I xs e2 c2 h3 h
    · rw [st, h2]
      exact ⟨e2, c2, rfl, h3⟩
theorem lcL_inv {tg : Tg} {tt el : SE} {envw : Ev} (I : List D → List D → Cells → Prop) : ∀ (items acc : List D) (c : Cells), I items acc c →
    (∀ x rest acc c, I (x :: rest) acc c → acc.length ≤ 100000 ∧ ∃ e1 c1 d c2, tg x envw c = some (e1, c1) ∧ Pv tt e1 c1 (.bl true) ∧ Px el e1 c1 d c2 ∧ I rest (acc ++ [d]) c2) →
    ∃ acc' c', lcL tg tt el envw items acc c = some (acc', c') ∧ I [] acc' c'
  | [], acc, c, hI, _ => ⟨acc, c, rfl, hI⟩
  | x :: xs, acc, c, hI, h => by
    obtain ⟨hl, e1, c1, d, c2, h1, h2, h3, h4⟩ := h x xs acc c hI
    have st : lcStep tg tt el envw x acc c = some (acc ++ [d], c2) := by
      unfold lcStep
      rw [h1]
      simp only [show tt e1 c1 = _ from h2, show el e1 c1 = _ from h3]
      exact if_pos (decide_eq_true hl)
    obtain ⟨acc', c', h5, h6⟩ := lcL_inv I xs (acc ++ [d]) c2 h4 h
    refine ⟨acc', c', ?_, h6⟩
    show (match lcStep tg tt el envw x acc c with | some (acc1, c1) => lcL tg tt el envw xs acc1 c1 | none => none) = _
    rw [st]
    exact h5
theorem px_lc {it : SE} {tg : Tg} {tt el : SE} {vs : List Nat} {items : List D} (I : List D → List D → Cells → Prop) (hi : Px it env c (.tup items) c1) (h0 : I items [] c1)
    (h : ∀ x rest acc c, I (x :: rest) acc c → acc.length ≤ 100000 ∧ ∃ e1 c1 d c2, tg x (wipeE env vs) c = some (e1, c1) ∧ Pv tt e1 c1 (.bl true) ∧ Px el e1 c1 d c2 ∧ I rest (acc ++ [d]) c2) :
    ∃ acc c', Px (lcE endL vs it tg tt el) env c (.lst acc) c' ∧ I [] acc c' := by
  obtain ⟨acc, c', h1, h2⟩ := lcL_inv I items [] c1 h0 h
  refine ⟨acc, c', ?_, h2⟩
  show bindO (it env c) (lcK endL vs tg tt el env) = _
  rw [show it env c = _ from hi]
  show (match lcL tg tt el (wipeE env vs) items [] c1 with | some (acc, c1) => endL acc c1 | none => none) = _
  rw [h1]
  rfl
theorem set_get {n : Nat} {l l2 : List D} (h : c[n]? = some l) : (c.set n l2)[n]? = some l2 := List.getElem?_set_self (len_lt h)
where len_lt {n : Nat} {l : List D} (h : c[n]? = some l) : n < c.length := (List.getElem?_eq_some_iff.mp h).1
end
end G
set_option Elab.async false
set_option linter.all false
set_option maxRecDepth 100000
set_option maxHeartbeats 4000000
namespace G
open PySem PySem.Spec PyProof.Rows L2
theorem ins_perm (x : Str) : ∀ l : List Str, (insS x l).Perm (x :: l)
  | [] => List.Perm.refl _
  | y :: r => by
    simp only [insS]
    split
    · exact List.Perm.refl _
    · exact ((ins_perm x r).cons y).trans (List.Perm.swap x y r)
theorem sortS_perm : ∀ l : List Str, (sortS l).Perm l
  | [] => List.Perm.refl _
  | x :: r => (ins_perm x (sortS r)).trans ((sortS_perm r).cons x)
theorem ins_sorted (x : Str) : ∀ l : List Str, l.Pairwise (fun a b => strLe a b = true) → (insS x l).Pairwise (fun a b => strLe a b = true)
  | [], _ => by simp [insS]
  | y :: r, h => by
    have h' := List.pairwise_cons.mp h
    simp only [insS]
    split
    · rename_i hxy
      refine List.pairwise_cons.mpr ⟨fun z hz => ?_, h⟩
      rcases List.mem_cons.mp hz with e | e
      · rw [e]; exact hxy
      · exact strLe_trans hxy (h'.1 z e)
    · rename_i hxy
      have hyx := (strLe_total x y).resolve_left hxy
      refine List.pairwise_cons.mpr ⟨fun z hz => ?_, ins_sorted x r h'.2⟩
      rcases List.mem_cons.mp ((ins_perm x r).mem_iff.mp hz) with e | e
      · rw [e]; exact hyx
      · exact h'.1 z e
theorem sortS_sorted : ∀ l : List Str, (sortS l).Pairwise (fun a b => strLe a b = true)
  | [] => List.Pairwise.nil
  | x :: r => ins_sorted x _ (sortS_sorted r)
theorem strLe_lt {x y : Str} (h : strLe x y = true) (hne : x ≠ y) : x.cps.toList < y.cps.toList := by
  cases hz : strLe y x with
  | true => exact absurd (strLe_anti h hz) hne
  | false =>
    unfold strLe at hz
    simpa using hz
theorem sortS_lt {l : List Str} (h : l.Nodup) : (sortS l).Pairwise (fun a b => a.cps.toList < b.cps.toList) := by
  have h2 : (sortS l).Nodup := (sortS_perm l).nodup_iff.mpr h
  have h3 := sortS_sorted l
  exact (h3.and h2).imp fun {a b} q => strLe_lt q.1 q.2
/-- a list of its own, the last one -/
def co (c : Cells) (i : Nat) (l X : List D) : Cells := c.set i l ++ [X]
section
variable {c : Cells} {i : Nat} {l l2 X Y : List D}
theorem co_get (h : i < c.length) : (co c i l X)[i]? = some l := by
  unfold co
  rw [List.getElem?_append_left (by simpa using h), List.getElem?_set_self h]
theorem co_set (h : i < c.length) : (co c i l X).set i l2 = co c i l2 X := by
  unfold co
  rw [List.set_append_left _ _ (by simpa using h), List.set_set]
theorem co_last : (co c i l X)[c.length]? = some X := by
  unfold co
  rw [List.getElem?_append_right (by simp)]
  simp
theorem co_setlast : (co c i l X).set c.length Y = co c i l Y := by
  unfold co
  rw [List.set_append_right _ _ (by simp)]
  simp
theorem co_len : (co c i l X).length = c.length + 1 := by simp [co]
theorem co_take : (co c i l X).take c.length = c.set i l := by
  unfold co
  rw [List.take_left' (by simp)]
end
theorem str_app (a b : Str) : (a ++ b).cps.toList = a.cps.toList ++ b.cps.toList := by
  show (a.cps ++ b.cps).toList = _
  simp
theorem str_len (s : Str) : s.length = s.cps.toList.length := by simp [Str.length]
theorem strsD_map : ∀ l : List Str, strsD (l.map D.str) = some l
  | [] => rfl
  | x :: r => by
    simp only [List.map_cons, strsD, strsD_map r]
    try rfl
section
variable {f g t : SE} {env : Ev} {c c1 c2 : Cells} {d x y z : D} {ds : List D} {i j : Int}
theorem par2_ofX {k l : Nat} (h : Px f env c (.tup [x, y]) c1) : par2S k l f env c = some (.nx ((env.set k (some x)).set l (some y)) c1) := by
  show bindS (f env c) _ = _
  rw [show f env c = _ from h]; rfl
theorem par3_ofX {k l m : Nat} (h : Px f env c (.tup [x, y, z]) c1) : par3S k l m f env c = some (.nx (((env.set k (some x)).set l (some y)).set m (some z)) c1) := by
  show bindS (f env c) _ = _
  rw [show f env c = _ from h]; rfl
theorem pv_sm {k : Str → List D → Cells → Option Out} {s : Str} (h : Pv f env c (.str s)) (h2 : Pv g env c (.tup ds)) (h3 : k s ds c = some (.ok d c)) : Pv (smE k f g) env c d := by
  show bindO (f env c) (fun x c1 => match x with
    | .str z => bindO (g env c1) (argK (k z))
    | _ => none) = _
  rw [show f env c = _ from h]
  show bindO (g env c) (argK (k s)) = _
  rw [show g env c = _ from h2]
  exact h3
theorem px_app {n : Nat} {l : List D} (h : Px f env c (.cell n) c1) (hc : c1[n]? = some l) (h2 : Px g env c1 y c1) (hl : l.length ≤ 100000) : Px (lmE appK f (consA g nilA)) env c .non (c1.set n (l ++ [y])) := by
  show bindO (f env c) (fun x c1 => match lqview c1 x with
    | some _ => bindO (consA g nilA env c1) (argK (appK x))
    | none => none) = _
  rw [show f env c = _ from h]
  show (match lqview c1 (.cell n) with
    | some _ => bindO (consA g nilA env c1) (argK (appK (.cell n)))
    | none => none) = _
  unfold lqview
  rw [rs_get hc]
  show bindO (consA g nilA env c1) (argK (appK (.cell n))) = _
  rw [show consA g nilA env c1 = some (.ok (.tup [y]) c1) from px_cons h2 px_nil]
  show (match c1[n]? with
    | some l => if sz l.length then some (Out.ok .non (c1.set n (l ++ [y]))) else none
    | none => none) = _
  rw [hc]
  exact if_pos (decide_eq_true hl)
/-- a comprehension with a test -/
theorem lc_filter {it : SE} {tg : Tg} {tt el : SE} {vs : List Nat} {α : Type} (l : List α) (src fn : α → D) (p : α → Bool) (hi : Pv it env c (.tup (l.map src))) (h : ∀ a ∈ l, ∃ e1, tg (src a) (wipeE env vs) c = some (e1, c) ∧ Pv tt e1 c (.bl (p a)) ∧ Pv el e1 c (fn a)) (hl : l.length ≤ 100000) :
    Pv (lcE endL vs it tg tt el) env c (.lst ((l.filter p).map fn)) := by
  have go : ∀ (l : List α) (acc : List D), (∀ a ∈ l, ∃ e1, tg (src a) (wipeE env vs) c = some (e1, c) ∧ Pv tt e1 c (.bl (p a)) ∧ Pv el e1 c (fn a)) → acc.length + l.length ≤ 100000 → lcL tg tt el (wipeE env vs) (l.map src) acc c = some (acc ++ (l.filter p).map fn, c) := by
    intro l
    induction l with
    | nil => intro acc _ _; simp [lcL]
    | cons x xs ih =>
      intro acc h hl
      obtain ⟨e1, h1, h2, h3⟩ := h x (by simp)
      have st : lcStep tg tt el (wipeE env vs) (src x) acc c = some (if p x then acc ++ [fn x] else acc, c) := by
        unfold lcStep
        rw [h1]
        cases hp : p x with
        | true =>
          rw [hp] at h2
          simp only [show tt e1 c = _ from h2, show el e1 c = _ from h3]
          exact if_pos (decide_eq_true (by simp at hl; omega))
        | false =>
          rw [hp] at h2
          simp only [show tt e1 c = _ from h2]
          rfl
      show (match lcStep tg tt el (wipeE env vs) (src x) acc c with | some (acc1, c1) => lcL tg tt el (wipeE env vs) (xs.map src) acc1 c1 | none => none) = _
      rw [st]
      show lcL tg tt el (wipeE env vs) (xs.map src) (if p x then acc ++ [fn x] else acc) c = _
      cases hp : p x with
      | true =>
        rw [if_pos rfl, ih (acc ++ [fn x]) (fun y hy => h y (by simp [hy])) (by simp at hl ⊢; omega), List.filter_cons_of_pos hp]
        simp
      | false =>
        rw [if_neg (by simp), ih acc (fun y hy => h y (by simp [hy])) (by simp at hl ⊢; omega), List.filter_cons_of_neg (by simp [hp])]
  show bindO (it env c) (lcK endL vs tg tt el env) = _
  rw [show it env c = _ from hi]
  show (match lcL tg tt el (wipeE env vs) (l.map src) [] c with | some (acc, c1) => endL acc c1 | none => none) = _
  rw [go l [] h (by simpa using hl)]
  simp [endL]
end
end G
set_option Elab.async false
set_option linter.all false
set_option maxRecDepth 100000
set_option maxHeartbeats 4000000
namespace K59
open PySem PySem.Spec PyProof.Rows L2 G
abbrev FnT := List D → Cells → Option Out
def nthS (l : List Stmt) (k : Nat) : Stmt := l.getD k (.Pass ⟨0, 0, 0, 0⟩)
def noX : Expr := .Constant .none 0 ⟨0, 0, 0, 0⟩
def valS : Stmt → Expr
  | .Return (some e) _ => e
  | .Assign _ e _ => e
  | .Expr e _ => e
  | .If e _ _ _ => e
  | .For _ e _ _ _ => e
  | _ => noX
def subS : Nat → Stmt → List Stmt
  | 0, .If _ a _ _ => a
  | _, .If _ _ b _ => b
  | _, .For _ _ a _ _ => a
  | _, _ => []
def kid (k : Nat) : Expr → Expr
  | .Call _ as _ _ => as.getD k noX
  | .BoolOp _ as _ => as.getD k noX
  | .Compare a _ bs _ => (a :: bs).getD k noX
  | .BinOp a _ b _ => [a, b].getD k noX
  | .IfExp t a b _ => [t, a, b].getD k noX
  | .Tuple as _ _ => as.getD k noX
  | .List as _ => as.getD k noX
  | .UnaryOp _ a _ => a
  | .ListComp a _ _ _ => a
  | _ => noX
def lamD (q : Str) : Expr → LmD
  | .Lambda ps b sc _ => ⟨q, ps, b, sc⟩
  | _ => ⟨q, { posonlyargs := [], args := [], vararg := none, kwonlyargs := [], kw_defaults := [], kwarg := none, defaults := [] }, noX, { kind := .function, names := [], isGenerator := false, isCoroutine := false }⟩
def fnsL0 : List (Str × List Str) := [("is_whole", ["value"]), ("is_number", ["value", "low", "high"]), ("is_tuple_of", ["value", "many"]), ("wrong_at", ["value", "most", "is_right"]), ("wrong_from_one", ["value", "most", "is_right"]), ("wrong_for_all", ["value", "many", "is_right"]), ("is_above_last", ["value", "before"]), ("is_word", ["value"]), ("is_name", ["value"]), ("is_one_of", ["value", "words"]), ("is_heading_form", ["value"]), ("quarter_left", ["vector"]), ("opposite", ["vector"]), ("other_turn", ["turn"]), ("is_place_number", ["value"]), ("is_leaf_form", ["value"]), ("name_in", ["leaf"]), ("hinge_of", ["leaf"]), ("is_wall_form", ["value"]), ("is_next_leaf", ["value", "before"]), ("wrong_walls", ["value"]), ("is_house_form", ["value"]), ("leaf_names", ["house"]), ("check_turn", ["value"]), ("check_house", ["value"])]
def fnsL1 : List (Str × List Str) := [("wide_of", ["frame"]), ("is_frame_form", ["value"]), ("do_frames_touch", ["one", "two"]), ("is_next_frame", ["value", "before"]), ("wrong_frames", ["value"]), ("is_hanging", ["value"]), ("wrong_hangings", ["frames", "value"]), ("heading_along", ["frame"]), ("hung_leaf", ["frame", "post", "side"]), ("hung_by", ["frame", "hanging"]), ("all_hung", ["frames", "hangings"]), ("check_frame", ["value"]), ("check_post", ["value"]), ("check_frames", ["value"]), ("check_hangings", ["frames", "hangings"]), ("is_frame", ["value"]), ("hanging_leaf", ["frame", "post", "side"]), ("frames_house", ["frames", "hangings"]), ("is_house", ["value"]), ("names_of", ["house"]), ("is_leaf", ["value"]), ("_law_well", ["script", "lap"]), ("_law_draw", ["well", "limit"]), ("_law_of", ["well", "some"]), ("_law_same", ["one", "two"])]
def fnsL2 : List (Str × List Str) := [("_law_names", ["well", "many"]), ("_law_frames", ["well", "most"]), ("_law_touch", ["one", "two"]), ("_law_hung", ["frame", "hanging"]), ("_law_hangings", []), ("_law_choices", ["well", "frames"]), ("_law_near", ["well", "frame"]), ("_law_right", ["well"]), ("law", ["script"])]
def cstL0 : List (Str × D) := [("LETTERS", .str "abcdefghijklmnopqrstuvwxyz"), ("MOST_IN_NAME", .int (8)), ("WORDS", .tup [.str "again", .str "at", .str "beat", .str "calm", .str "door", .str "ends", .str "first", .str "from", .str "go", .str "house", .str "in", .str "left", .str "long", .str "never", .str "none", .str "open", .str "post", .str "right", .str "second", .str "shut", .str "stand", .str "sweep", .str "to", .str "turns", .str "wall", .str "way", .str "wedge"]), ("MOST_STEP", .int (9)), ("LEFT", .str "left"), ("RIGHT", .str "right"), ("TURNS", .tup [.str "left", .str "right"]), ("MOST_PLACE", .int (199)), ("MOST_LONG", .int (99)), ("MOST_LEAVES", .int (7)), ("MOST_WALLS", .int (8)), ("FIRST", .str "first"), ("SECOND", .str "second"), ("POSTS", .tup [.str "first", .str "second"]), ("MOST_FRAMES", .int (6)), ("LEAST_WIDE", .int (2)), ("MOST_WIDE", .int (100)), ("is_next_leaf", .fn 19), ("is_next_frame", .fn 28)]
def Bt : Tabl where
  fns := fnsL0 ++ (fnsL1 ++ (fnsL2))
  cst := cstL0
  bis := [("gcd", "math.gcd")]
def n_wrong_walls_lam0 : List Str := ["each", "before"]
def e_wrong_walls_lam0 (f_is_above_last f_is_wall_form : FnT) : SE := andE (bE (arK 1 f_is_wall_form) (consA (varE 0) (nilA))) (bE (arK 2 f_is_above_last) (consA (varE 0) (consA (varE 1) (nilA))))
def n_wrong_hangings_lam0 : List Str := ["each", "before"]
def e_wrong_hangings_lam0 (f_is_hanging : FnT) : SE := bE (arK 1 f_is_hanging) (consA (varE 0) (nilA))
def n_is_whole : List Str := ["value"]
def b_is_whole : SS := retS (andE (e1 (isiK .int) (varE 0)) (notE (e1 (isiK .bl) (varE 0))))
def n_is_number : List Str := ["value", "low", "high"]
def b_is_number (f_is_whole : FnT) : SS := seqS (ifS (orE (notE (bE (arK 1 f_is_whole) (consA (varE 0) (nilA)))) (andE (e1 notnK (varE 1)) (e2 ltK (varE 0) (varE 1)))) (retS (cE (.bl false))) (skipS)) (retS (orE (e1 isnK (varE 2)) (e2 leK (varE 0) (varE 2))))
def n_is_tuple_of : List Str := ["value", "many"]
def b_is_tuple_of : SS := retS (andE (e1 (isiK .tup) (varE 0)) (e2 eqK (bE lenK (consA (varE 0) nilA)) (varE 1)))
def n_wrong_at : List Str := ["value", "most", "is_right", "at", "each"]
def b_wrong_at (φ : Fns) : SS := seqS (ifS (notE (e1 (isiK .tup) (varE 0))) (retS (e1 lstK (consA (cE .non) (nilA)))) (skipS)) (seqS (forS (e1 enK (consA (varE 0) nilA)) (tupG 2 (consG (nameG 3) (consG (nameG 4) (nilG)))) (ifS (orE (e2 eqK (varE 3) (varE 1)) (notE (fvE φ 2 (consA (varE 4) (consA (slE (varE 0) (none) (some (varE 3))) (nilA)))))) (retS (e1 lstK (consA (varE 3) (nilA)))) (skipS))) (retS (e1 lstK (nilA))))
def n_wrong_from_one : List Str := ["value", "most", "is_right"]
def b_wrong_from_one (f_wrong_at : FnT) : SS := retS (ifE (andE (e1 (isiK .tup) (varE 0)) (e2 eqK (varE 0) (e1 tupK (nilA)))) (e1 lstK (consA (cE .non) (nilA))) (bE (arK 3 f_wrong_at) (consA (varE 0) (consA (varE 1) (consA (varE 2) (nilA))))))
def n_wrong_for_all : List Str := ["value", "many", "is_right", "found"]
def b_wrong_for_all (f_wrong_at : FnT) : SS := seqS (asgS (bE (arK 3 f_wrong_at) (consA (varE 0) (consA (cE .non) (consA (varE 2) (nilA))))) (nameG 3)) (seqS (ifS (andE (e2 eqK (varE 3) (e1 lstK (nilA))) (e2 neK (bE lenK (consA (varE 0) nilA)) (varE 1))) (retS (e1 lstK (consA (cE .non) (nilA)))) (skipS)) (retS (varE 3)))
def n_is_above_last : List Str := ["value", "before"]
def b_is_above_last : SS := retS (orE (e2 eqK (varE 1) (e1 tupK (nilA))) (e2 ltK (e2 ixK (varE 1) (e1 negK (cE (.int 1)))) (varE 0)))
def n_is_word : List Str := ["value", "letter"]
def b_is_word : SS := retS (andE (e1 (isiK .str) (varE 0)) (andE (e2 neK (varE 0) (cE (.str ""))) (bE allK (consA (lcE endL [1] (e1 strItK (varE 0)) (nameG 1) (yesE) (e2 (inK false) (varE 1) (cE (.str "abcdefghijklmnopqrstuvwxyz")))) nilA))))
def n_is_name : List Str := ["value"]
def b_is_name (f_is_word : FnT) : SS := retS (andE (bE (arK 1 f_is_word) (consA (varE 0) (nilA))) (andE (e2 leK (bE lenK (consA (varE 0) nilA)) (cE (.int (8)))) (e2 (inK true) (varE 0) (cE (.tup [.str "again", .str "at", .str "beat", .str "calm", .str "door", .str "ends", .str "first", .str "from", .str "go", .str "house", .str "in", .str "left", .str "long", .str "never", .str "none", .str "open", .str "post", .str "right", .str "second", .str "shut", .str "stand", .str "sweep", .str "to", .str "turns", .str "wall", .str "way", .str "wedge"])))))
def n_is_one_of : List Str := ["value", "words"]
def b_is_one_of : SS := retS (andE (e1 (isiK .str) (varE 0)) (e2 (inK false) (varE 0) (varE 1)))
def n_is_heading_form : List Str := ["value", "each"]
def b_is_heading_form (f_is_number f_is_tuple_of : FnT) : SS := seqS (ifS (orE (notE (bE (arK 2 f_is_tuple_of) (consA (varE 0) (consA (cE (.int 2)) (nilA))))) (notE (bE allK (consA (lcE endL [1] (e1 iterK (varE 0)) (nameG 1) (yesE) (bE (arK 3 f_is_number) (consA (varE 1) (consA (e2 subK (cE (.int 0)) (cE (.int (9)))) (consA (cE (.int (9))) (nilA)))))) nilA)))) (retS (cE (.bl false))) (skipS)) (retS (e2 eqK (bE gcdK (consA (e2 ixK (varE 0) (cE (.int 0))) (consA (e2 ixK (varE 0) (cE (.int 1))) nilA))) (cE (.int 1))))
def n_quarter_left : List Str := ["vector"]
def b_quarter_left : SS := retS (e1 tupK (consA (e2 subK (cE (.int 0)) (e2 ixK (varE 0) (cE (.int 1)))) (consA (e2 ixK (varE 0) (cE (.int 0))) (nilA))))
def n_opposite : List Str := ["vector"]
def b_opposite : SS := retS (e1 tupK (consA (e2 subK (cE (.int 0)) (e2 ixK (varE 0) (cE (.int 0)))) (consA (e2 subK (cE (.int 0)) (e2 ixK (varE 0) (cE (.int 1)))) (nilA))))
def n_other_turn : List Str := ["turn"]
def b_other_turn : SS := retS (ifE (e2 eqK (varE 0) (cE (.str "left"))) (cE (.str "right")) (cE (.str "left")))
def n_is_place_number : List Str := ["value"]
def b_is_place_number (f_is_number : FnT) : SS := retS (bE (arK 3 f_is_number) (consA (varE 0) (consA (cE (.int 0)) (consA (cE (.int (199))) (nilA)))))
def n_is_leaf_form : List Str := ["value", "each"]
def b_is_leaf_form (f_is_place_number f_is_name f_is_tuple_of f_is_one_of f_is_number f_is_heading_form : FnT) : SS := seqS (ifS (orE (notE (bE (arK 2 f_is_tuple_of) (consA (varE 0) (consA (cE (.int 7)) (nilA))))) (orE (notE (bE (arK 1 f_is_name) (consA (e2 ixK (varE 0) (cE (.int 0))) (nilA)))) (notE (bE allK (consA (lcE endL [1] (e1 iterK (slE (varE 0) (some (cE (.int 1))) (some (cE (.int 3))))) (nameG 1) (yesE) (bE (arK 1 f_is_place_number) (consA (varE 1) (nilA)))) nilA))))) (retS (cE (.bl false))) (skipS)) (seqS (ifS (orE (notE (bE (arK 3 f_is_number) (consA (e2 ixK (varE 0) (cE (.int 3))) (consA (cE (.int 1)) (consA (cE (.int (99))) (nilA)))))) (notE (bE (arK 2 f_is_one_of) (consA (e2 ixK (varE 0) (cE (.int 5))) (consA (cE (.tup [.str "left", .str "right"])) (nilA)))))) (retS (cE (.bl false))) (skipS)) (retS (andE (bE (arK 1 f_is_heading_form) (consA (e2 ixK (varE 0) (cE (.int 4))) (nilA))) (andE (bE (arK 1 f_is_heading_form) (consA (e2 ixK (varE 0) (cE (.int 6))) (nilA))) (e2 neK (e2 ixK (varE 0) (cE (.int 4))) (e2 ixK (varE 0) (cE (.int 6))))))))
def n_name_in : List Str := ["leaf"]
def b_name_in : SS := retS (e2 ixK (varE 0) (cE (.int 0)))
def n_hinge_of : List Str := ["leaf"]
def b_hinge_of : SS := retS (slE (varE 0) (some (cE (.int 1))) (some (cE (.int 3))))
def n_is_wall_form : List Str := ["value", "each"]
def b_is_wall_form (f_is_place_number f_is_tuple_of : FnT) : SS := seqS (ifS (orE (notE (bE (arK 2 f_is_tuple_of) (consA (varE 0) (consA (cE (.int 4)) (nilA))))) (notE (bE allK (consA (lcE endL [1] (e1 iterK (varE 0)) (nameG 1) (yesE) (bE (arK 1 f_is_place_number) (consA (varE 1) (nilA)))) nilA)))) (retS (cE (.bl false))) (skipS)) (retS (e2 leK (slE (varE 0) (none) (some (cE (.int 2)))) (slE (varE 0) (some (cE (.int 2))) (none))))
def n_is_next_leaf : List Str := ["value", "before", "leaf"]
def b_is_next_leaf (f_is_leaf_form f_hinge_of : FnT) : SS := seqS (ifS (orE (notE (bE (arK 1 f_is_leaf_form) (consA (varE 0) (nilA)))) (andE (e2 neK (varE 1) (e1 tupK (nilA))) (e2 geK (e2 ixK (e2 ixK (varE 1) (e1 negK (cE (.int 1)))) (cE (.int 0))) (e2 ixK (varE 0) (cE (.int 0)))))) (retS (cE (.bl false))) (skipS)) (retS (e2 (inK true) (bE (arK 1 f_hinge_of) (consA (varE 0) (nilA))) (lcE endL [2] (e1 iterK (varE 1)) (nameG 2) (yesE) (bE (arK 1 f_hinge_of) (consA (varE 2) (nilA))))))
def n_wrong_walls : List Str := ["value"]
def b_wrong_walls (f_wrong_at : FnT) (v_lam0 : Nat) : SS := retS (bE (arK 3 f_wrong_at) (consA (varE 0) (consA (cE (.int (8))) (consA (cE (.fn v_lam0)) (nilA)))))
def n_is_house_form : List Str := ["value"]
def b_is_house_form (f_wrong_from_one f_is_tuple_of f_wrong_walls : FnT) (v_is_next_leaf : Nat) : SS := seqS (ifS (orE (notE (bE (arK 2 f_is_tuple_of) (consA (varE 0) (consA (cE (.int 2)) (nilA))))) (e2 neK (bE (arK 3 f_wrong_from_one) (consA (e2 ixK (varE 0) (cE (.int 0))) (consA (cE (.int (7))) (consA (cE (.fn v_is_next_leaf)) (nilA))))) (e1 lstK (nilA)))) (retS (cE (.bl false))) (skipS)) (retS (e2 eqK (bE (arK 1 f_wrong_walls) (consA (e2 ixK (varE 0) (cE (.int 1))) (nilA))) (e1 lstK (nilA))))
def n_leaf_names : List Str := ["house", "leaf"]
def b_leaf_names (f_name_in : FnT) : SS := retS (bE tupleK (consA (lcE endL [1] (e1 iterK (e2 ixK (varE 0) (cE (.int 0)))) (nameG 1) (yesE) (bE (arK 1 f_name_in) (consA (varE 1) (nilA)))) nilA))
def n_check_turn : List Str := ["value"]
def b_check_turn (f_is_one_of : FnT) : SS := ifS (notE (bE (arK 2 f_is_one_of) (consA (varE 0) (consA (cE (.tup [.str "left", .str "right"])) (nilA))))) (noS) (skipS)
def n_check_house : List Str := ["value"]
def b_check_house (f_is_house_form : FnT) : SS := ifS (notE (bE (arK 1 f_is_house_form) (consA (varE 0) (nilA)))) (noS) (skipS)
def n_wide_of : List Str := ["frame"]
def b_wide_of : SS := retS (e2 subK (e2 addK (e2 subK (e2 ixK (varE 0) (cE (.int 3))) (e2 ixK (varE 0) (cE (.int 1)))) (e2 ixK (varE 0) (cE (.int 4)))) (e2 ixK (varE 0) (cE (.int 2))))
def n_is_frame_form : List Str := ["value", "each"]
def b_is_frame_form (f_is_place_number f_is_name f_is_tuple_of f_wide_of : FnT) : SS := seqS (ifS (orE (notE (bE (arK 2 f_is_tuple_of) (consA (varE 0) (consA (cE (.int 5)) (nilA))))) (orE (notE (bE (arK 1 f_is_name) (consA (e2 ixK (varE 0) (cE (.int 0))) (nilA)))) (notE (bE allK (consA (lcE endL [1] (e1 iterK (slE (varE 0) (some (cE (.int 1))) (none))) (nameG 1) (yesE) (bE (arK 1 f_is_place_number) (consA (varE 1) (nilA)))) nilA))))) (retS (cE (.bl false))) (skipS)) (seqS (ifS (orE (andE (e2 neK (e2 ixK (varE 0) (cE (.int 1))) (e2 ixK (varE 0) (cE (.int 3)))) (e2 neK (e2 ixK (varE 0) (cE (.int 2))) (e2 ixK (varE 0) (cE (.int 4))))) (orE (e2 gtK (e2 ixK (varE 0) (cE (.int 1))) (e2 ixK (varE 0) (cE (.int 3)))) (e2 gtK (e2 ixK (varE 0) (cE (.int 2))) (e2 ixK (varE 0) (cE (.int 4)))))) (retS (cE (.bl false))) (skipS)) (retS (chE leK leK (cE (.int (2))) (bE (arK 1 f_wide_of) (consA (varE 0) (nilA))) (cE (.int (100))))))
def n_do_frames_touch : List Str := ["one", "two"]
def b_do_frames_touch : SS := seqS (ifS (orE (e2 gtK (e2 ixK (varE 0) (cE (.int 1))) (e2 ixK (varE 1) (cE (.int 3)))) (e2 gtK (e2 ixK (varE 1) (cE (.int 1))) (e2 ixK (varE 0) (cE (.int 3))))) (retS (cE (.bl false))) (skipS)) (retS (andE (e2 leK (e2 ixK (varE 0) (cE (.int 2))) (e2 ixK (varE 1) (cE (.int 4)))) (e2 leK (e2 ixK (varE 1) (cE (.int 2))) (e2 ixK (varE 0) (cE (.int 4))))))
def n_is_next_frame : List Str := ["value", "before", "frame"]
def b_is_next_frame (f_is_frame_form f_do_frames_touch : FnT) : SS := seqS (ifS (orE (notE (bE (arK 1 f_is_frame_form) (consA (varE 0) (nilA)))) (andE (e2 neK (varE 1) (e1 tupK (nilA))) (e2 geK (e2 ixK (e2 ixK (varE 1) (e1 negK (cE (.int 1)))) (cE (.int 0))) (e2 ixK (varE 0) (cE (.int 0)))))) (retS (cE (.bl false))) (skipS)) (retS (notE (bE anyK (consA (lcE endL [2] (e1 iterK (varE 1)) (nameG 2) (yesE) (bE (arK 2 f_do_frames_touch) (consA (varE 2) (consA (varE 0) (nilA))))) nilA))))
def n_wrong_frames : List Str := ["value"]
def b_wrong_frames (f_wrong_from_one : FnT) (v_is_next_frame : Nat) : SS := retS (bE (arK 3 f_wrong_from_one) (consA (varE 0) (consA (cE (.int (6))) (consA (cE (.fn v_is_next_frame)) (nilA)))))
def n_is_hanging : List Str := ["value"]
def b_is_hanging (f_is_one_of f_is_tuple_of : FnT) : SS := retS (andE (bE (arK 2 f_is_tuple_of) (consA (varE 0) (consA (cE (.int 2)) (nilA)))) (andE (bE (arK 2 f_is_one_of) (consA (e2 ixK (varE 0) (cE (.int 0))) (consA (cE (.tup [.str "first", .str "second"])) (nilA)))) (bE (arK 2 f_is_one_of) (consA (e2 ixK (varE 0) (cE (.int 1))) (consA (cE (.tup [.str "left", .str "right"])) (nilA))))))
def n_wrong_hangings : List Str := ["frames", "value"]
def b_wrong_hangings (f_wrong_for_all : FnT) (v_lam0 : Nat) : SS := retS (bE (arK 3 f_wrong_for_all) (consA (varE 1) (consA (bE lenK (consA (varE 0) nilA)) (consA (cE (.fn v_lam0)) (nilA)))))
def n_heading_along : List Str := ["frame"]
def b_heading_along : SS := retS (ifE (e2 ltK (e2 ixK (varE 0) (cE (.int 1))) (e2 ixK (varE 0) (cE (.int 3)))) (e1 tupK (consA (cE (.int 1)) (consA (cE (.int 0)) (nilA)))) (e1 tupK (consA (cE (.int 0)) (consA (cE (.int 1)) (nilA)))))
def n_hung_leaf : List Str := ["frame", "post", "side", "heading", "long", "opened"]
def b_hung_leaf (f_wide_of f_heading_along f_quarter_left f_opposite f_other_turn : FnT) : SS := seqS (par2S 3 4 (consA (bE (arK 1 f_heading_along) (consA (varE 0) (nilA))) (consA (e2 subK (bE (arK 1 f_wide_of) (consA (varE 0) (nilA))) (cE (.int 1))) (nilA)))) (seqS (asgS (ifE (e2 eqK (varE 2) (cE (.str "left"))) (bE (arK 1 f_quarter_left) (consA (varE 3) (nilA))) (bE (arK 1 f_opposite) (consA (bE (arK 1 f_quarter_left) (consA (varE 3) (nilA))) (nilA)))) (nameG 5)) (seqS (ifS (e2 eqK (varE 1) (cE (.str "first"))) (retS (e1 tupK (consA (e2 ixK (varE 0) (cE (.int 0))) (consA (e2 ixK (varE 0) (cE (.int 1))) (consA (e2 ixK (varE 0) (cE (.int 2))) (consA (varE 4) (consA (varE 3) (consA (varE 2) (consA (varE 5) (nilA)))))))))) (skipS)) (retS (e1 tupK (consA (e2 ixK (varE 0) (cE (.int 0))) (consA (e2 ixK (varE 0) (cE (.int 3))) (consA (e2 ixK (varE 0) (cE (.int 4))) (consA (varE 4) (consA (bE (arK 1 f_opposite) (consA (varE 3) (nilA))) (consA (bE (arK 1 f_other_turn) (consA (varE 2) (nilA))) (consA (varE 5) (nilA))))))))))))
def n_hung_by : List Str := ["frame", "hanging", "post", "side"]
def b_hung_by (f_hung_leaf : FnT) : SS := seqS (asgS (varE 1) (tupG 2 (consG (nameG 2) (consG (nameG 3) (nilG))))) (retS (bE (arK 3 f_hung_leaf) (consA (varE 0) (consA (varE 2) (consA (varE 3) (nilA))))))
def n_all_hung : List Str := ["frames", "hangings", "frame", "hanging"]
def b_all_hung (f_hung_by : FnT) : SS := retS (bE tupleK (consA (lcE endL [2, 3] (e1 zipK (consA (varE 0) (consA (varE 1) nilA))) (tupG 2 (consG (nameG 2) (consG (nameG 3) (nilG)))) (yesE) (bE (arK 2 f_hung_by) (consA (varE 2) (consA (varE 3) (nilA))))) nilA))
def n_check_frame : List Str := ["value"]
def b_check_frame (f_is_frame_form : FnT) : SS := ifS (notE (bE (arK 1 f_is_frame_form) (consA (varE 0) (nilA)))) (noS) (skipS)
def n_check_post : List Str := ["value"]
def b_check_post (f_is_one_of : FnT) : SS := ifS (notE (bE (arK 2 f_is_one_of) (consA (varE 0) (consA (cE (.tup [.str "first", .str "second"])) (nilA))))) (noS) (skipS)
def n_check_frames : List Str := ["value", "at"]
def b_check_frames (f_wrong_frames : FnT) : SS := forS (e1 iterK (bE (arK 1 f_wrong_frames) (consA (varE 0) (nilA)))) (nameG 1) (noS)
def n_check_hangings : List Str := ["frames", "hangings", "at"]
def b_check_hangings (f_check_frames f_wrong_hangings : FnT) : SS := seqS (dropS (bE (arK 1 f_check_frames) (consA (varE 0) (nilA)))) (forS (e1 iterK (bE (arK 2 f_wrong_hangings) (consA (varE 0) (consA (varE 1) (nilA))))) (nameG 2) (noS))
def n_is_frame : List Str := ["value"]
def b_is_frame (f_is_frame_form : FnT) : SS := retS (bE (arK 1 f_is_frame_form) (consA (varE 0) (nilA)))
def n_hanging_leaf : List Str := ["frame", "post", "side"]
def b_hanging_leaf (f_check_frame f_check_post f_check_turn f_hung_leaf : FnT) : SS := seqS (dropS (bE (arK 1 f_check_frame) (consA (varE 0) (nilA)))) (seqS (dropS (bE (arK 1 f_check_post) (consA (varE 1) (nilA)))) (seqS (dropS (bE (arK 1 f_check_turn) (consA (varE 2) (nilA)))) (retS (bE (arK 3 f_hung_leaf) (consA (varE 0) (consA (varE 1) (consA (varE 2) (nilA))))))))
def n_frames_house : List Str := ["frames", "hangings"]
def b_frames_house (f_check_hangings f_all_hung : FnT) : SS := seqS (dropS (bE (arK 2 f_check_hangings) (consA (varE 0) (consA (varE 1) (nilA))))) (retS (e1 tupK (consA (bE (arK 2 f_all_hung) (consA (varE 0) (consA (varE 1) (nilA)))) (consA (e1 tupK (nilA)) (nilA)))))
def n_is_house : List Str := ["value"]
def b_is_house (f_is_house_form : FnT) : SS := retS (bE (arK 1 f_is_house_form) (consA (varE 0) (nilA)))
def n_names_of : List Str := ["house"]
def b_names_of (f_check_house f_leaf_names : FnT) : SS := seqS (dropS (bE (arK 1 f_check_house) (consA (varE 0) (nilA)))) (retS (bE (arK 1 f_leaf_names) (consA (varE 0) (nilA))))
def n_is_leaf : List Str := ["value"]
def b_is_leaf (f_is_leaf_form : FnT) : SS := retS (bE (arK 1 f_is_leaf_form) (consA (varE 0) (nilA)))
def n__law_well : List Str := ["script", "lap", "stirred", "cell", "own"]
def b__law_well : SS := seqS (asgS (e2 addK (cE (.int 130577)) (e2 mulK (cE (.int 7013)) (varE 1))) (nameG 2)) (seqS (forS (e1 iterK (slE (varE 0) (none) (some (cE (.int 12))))) (nameG 3) (asgS (e2 modK (bE intK (consA (e2 addK (e2 addK (e2 mulK (varE 2) (cE (.int 45281))) (e2 modK (bE intK (consA (varE 3) nilA)) (cE (.int 2147483549)))) (cE (.int 19))) nilA)) (cE (.int 2147483563))) (nameG 2))) (seqS (asgS (ifE (e2 ltK (varE 1) (bE lenK (consA (varE 0) nilA))) (bE intK (consA (e2 ixK (varE 0) (varE 1)) nilA)) (cE (.int 0))) (nameG 4)) (seqS (asgS (e2 modK (bE intK (consA (e2 addK (e2 addK (e2 mulK (varE 2) (cE (.int 41))) (e2 mulK (e2 modK (bE intK (consA (varE 4) nilA)) (cE (.int 2147483549))) (cE (.int 15031)))) (cE (.int 5))) nilA)) (cE (.int 2147483563))) (nameG 2)) (retS (e1 newK (consA (ifE (orE (e2 ltK (varE 4) (cE (.int 0))) (e2 geK (varE 4) (e2 powK (cE (.int 10)) (cE (.int 15))))) (bE absK (consA (varE 4) nilA)) (cE (.int 0))) (consA (varE 2) (consA (cE (.int 0)) (nilA)))))))))
def n__law_draw : List Str := ["well", "limit", "digit", "stir"]
def b__law_draw : SS := seqS (ifS (e2 gtK (e2 ixK (varE 0) (cE (.int 0))) (cE (.int 0))) (seqS (asgS (bE divmodK (consA (e2 ixK (varE 0) (cE (.int 0))) (consA (varE 1) nilA))) (tupG 2 (consG (subG (varE 0) (cE (.int 0))) (consG (nameG 2) (nilG))))) (retS (varE 2))) (skipS)) (seqS (asgS (e2 addK (e2 ixK (varE 0) (cE (.int 2))) (cE (.int 1))) (subG (varE 0) (cE (.int 2)))) (seqS (asgS (e2 modK (bE intK (consA (e2 addK (e2 addK (e2 mulK (e2 ixK (varE 0) (cE (.int 1))) (cE (.int 40037))) (e2 mulK (cE (.int 13001)) (e2 ixK (varE 0) (cE (.int 2))))) (cE (.int 7))) nilA)) (cE (.int 2147483563))) (nameG 3)) (seqS (asgS (e2 modK (bE intK (consA (e2 addK (e2 mulK (varE 3) (e2 addK (e2 modK (bE intK (consA (varE 3) nilA)) (cE (.int 5009))) (cE (.int 20023)))) (e2 ixK (varE 0) (cE (.int 2)))) nilA)) (cE (.int 2147483563))) (subG (varE 0) (cE (.int 1)))) (retS (e2 modK (bE intK (consA (e2 divK (e2 ixK (varE 0) (cE (.int 1))) (cE (.int 1013))) nilA)) (varE 1))))))
def n__law_of : List Str := ["well", "some"]
def b__law_of (f__law_draw : FnT) : SS := retS (e2 ixK (varE 1) (bE (arK 2 f__law_draw) (consA (varE 0) (consA (bE lenK (consA (varE 1) nilA)) (nilA)))))
def n__law_same : List Str := ["one", "two", "k"]
def b__law_same (f__law_same : FnT) : SS := seqS (ifS (andE (e1 (isiK .tup) (varE 0)) (e1 (isiK .tup) (varE 1))) (retS (andE (e2 eqK (bE lenK (consA (varE 0) nilA)) (bE lenK (consA (varE 1) nilA))) (bE allK (consA (lcE endL [2] (e1 rng1K (consA (bE lenK (consA (varE 0) nilA)) nilA)) (nameG 2) (yesE) (bE (arK 2 f__law_same) (consA (e2 ixK (varE 0) (varE 2)) (consA (e2 ixK (varE 1) (varE 2)) (nilA))))) nilA)))) (skipS)) (seqS (ifS (orE (e2 neK (e1 (isiK .bl) (varE 0)) (e1 (isiK .bl) (varE 1))) (e2 neK (e1 (isiK .int) (varE 0)) (e1 (isiK .int) (varE 1)))) (retS (cE (.bl false))) (skipS)) (retS (andE (e2 eqK (e1 (isiK .tup) (varE 0)) (e1 (isiK .tup) (varE 1))) (e2 eqK (varE 0) (varE 1)))))
def n__law_names : List Str := ["well", "many", "found", "letters", "words", "k", "name", "lap"]
def b__law_names (f__law_of : FnT) : SS := seqS (par2S 2 3 (consA (e1 newK (nilA)) (consA (cE (.str "abcdefghijklmnopqrstuvwxyz")) (nilA)))) (seqS (asgS (cE (.str "again at beat calm door ends first from go house in left long never none open post right second shut")) (nameG 4)) (seqS (asgS (e2 addK (smE splitK (varE 4) (consA (cE (.str " ")) nilA)) (smE splitK (cE (.str "stand sweep to turns wall way wedge")) (consA (cE (.str " ")) nilA))) (nameG 4)) (seqS (forS (e1 rng1K (consA (varE 1) nilA)) (nameG 5) (seqS (asgS (cE (.str "")) (nameG 6)) (seqS (forS (e1 rng1K (consA (bE (arK 2 f__law_of) (consA (varE 0) (consA (e1 tupK (consA (cE (.int 0)) (consA (cE (.int 1)) (consA (cE (.int 2)) (consA (cE (.int 3)) (consA (cE (.int 7)) (nilA))))))) (nilA)))) nilA)) (nameG 7) (asgS (e2 addK (varE 6) (bE (arK 2 f__law_of) (consA (varE 0) (consA (varE 3) (nilA))))) (nameG 6))) (seqS (asgS (e2 addK (varE 6) (e2 ixK (varE 3) (varE 5))) (nameG 6)) (dropS (lmE appK (varE 2) (consA (ifE (e2 (inK false) (varE 6) (varE 4)) (e2 addK (cE (.str "q")) (e2 ixK (varE 3) (varE 5))) (varE 6)) nilA))))))) (retS (bE tupleK (consA (bE sortK (consA (varE 2) nilA)) nilA))))))
def n__law_frames : List Str := ["well", "most", "found", "wide", "name", "lap", "x", "y", "long", "frame", "each"]
def b__law_frames (f__law_of f__law_draw f__law_names f__law_touch : FnT) : SS := seqS (par2S 2 3 (consA (e1 tupK (nilA)) (consA (bE (arK 2 f__law_of) (consA (varE 0) (consA (e1 tupK (consA (cE (.int 10)) (consA (cE (.int 16)) (consA (cE (.int 22)) (nilA))))) (nilA)))) (nilA)))) (seqS (forS (e1 iterK (bE (arK 2 f__law_names) (consA (varE 0) (consA (e2 addK (cE (.int 1)) (bE (arK 2 f__law_draw) (consA (varE 0) (consA (varE 1) (nilA))))) (nilA))))) (nameG 4) (forS (e1 rng1K (consA (cE (.int 9)) nilA)) (nameG 5) (seqS (par3S 6 7 8 (consA (bE (arK 2 f__law_draw) (consA (varE 0) (consA (varE 3) (nilA)))) (consA (bE (arK 2 f__law_draw) (consA (varE 0) (consA (varE 3) (nilA)))) (consA (e2 addK (cE (.int 2)) (bE (arK 2 f__law_draw) (consA (varE 0) (consA (cE (.int 9)) (nilA))))) (nilA))))) (seqS (asgS (e2 addK (e1 tupK (consA (varE 4) (consA (varE 6) (consA (varE 7) (nilA))))) (bE (arK 2 f__law_of) (consA (varE 0) (consA (e1 tupK (consA (e1 tupK (consA (e2 addK (varE 6) (varE 8)) (consA (varE 7) (nilA)))) (consA (e1 tupK (consA (varE 6) (consA (e2 addK (varE 7) (varE 8)) (nilA)))) (nilA)))) (nilA))))) (nameG 9)) (ifS (e2 eqK (lcE endL [10] (e1 iterK (varE 2)) (nameG 10) (bE (arK 2 f__law_touch) (consA (varE 10) (consA (varE 9) (nilA)))) (varE 10)) (e1 lstK (nilA))) (seqS (asgS (e2 addK (varE 2) (e1 tupK (consA (varE 9) (nilA)))) (nameG 2)) (brkS)) (skipS)))))) (retS (varE 2)))
def n__law_touch : List Str := ["one", "two", "a", "b", "c", "d"]
def b__law_touch : SS := seqS (forS (e1 iterK (e1 tupK (consA (e1 tupK (consA (e2 ixK (varE 0) (cE (.int 1))) (consA (e2 ixK (varE 0) (cE (.int 3))) (consA (e2 ixK (varE 1) (cE (.int 1))) (consA (e2 ixK (varE 1) (cE (.int 3))) (nilA)))))) (consA (e1 tupK (consA (e2 ixK (varE 0) (cE (.int 2))) (consA (e2 ixK (varE 0) (cE (.int 4))) (consA (e2 ixK (varE 1) (cE (.int 2))) (consA (e2 ixK (varE 1) (cE (.int 4))) (nilA)))))) (nilA))))) (tupG 4 (consG (nameG 2) (consG (nameG 3) (consG (nameG 4) (consG (nameG 5) (nilG)))))) (ifS (e2 gtK (bE maxK (consA (varE 2) (consA (varE 4) nilA))) (bE minK (consA (varE 3) (consA (varE 5) nilA)))) (retS (cE (.bl false))) (skipS))) (retS (cE (.bl true)))
def n__law_hung : List Str := ["frame", "hanging", "name", "x", "y", "x2", "y2", "post", "side", "long", "way", "end"]
def b__law_hung : SS := seqS (asgS (varE 0) (tupG 5 (consG (nameG 2) (consG (nameG 3) (consG (nameG 4) (consG (nameG 5) (consG (nameG 6) (nilG)))))))) (seqS (asgS (varE 1) (tupG 2 (consG (nameG 7) (consG (nameG 8) (nilG))))) (seqS (par2S 9 10 (consA (e2 subK (e2 addK (e2 subK (varE 5) (varE 3)) (varE 6)) (varE 4)) (consA (ifE (e2 eqK (varE 4) (varE 6)) (e1 tupK (consA (cE (.int 1)) (consA (cE (.int 0)) (nilA)))) (e1 tupK (consA (cE (.int 0)) (consA (cE (.int 1)) (nilA))))) (nilA)))) (seqS (asgS (ifE (e2 eqK (varE 8) (cE (.str "left"))) (e1 tupK (consA (e2 subK (cE (.int 0)) (e2 ixK (varE 10) (cE (.int 1)))) (consA (e2 ixK (varE 10) (cE (.int 0))) (nilA)))) (e1 tupK (consA (e2 ixK (varE 10) (cE (.int 1))) (consA (e2 subK (cE (.int 0)) (e2 ixK (varE 10) (cE (.int 0)))) (nilA))))) (nameG 11)) (seqS (ifS (e2 eqK (varE 7) (cE (.str "first"))) (retS (e1 tupK (consA (varE 2) (consA (varE 3) (consA (varE 4) (consA (e2 subK (varE 9) (cE (.int 1))) (consA (varE 10) (consA (varE 8) (consA (varE 11) (nilA)))))))))) (skipS)) (retS (e1 tupK (consA (varE 2) (consA (varE 5) (consA (varE 6) (consA (e2 subK (varE 9) (cE (.int 1))) (consA (e1 tupK (consA (e2 subK (cE (.int 0)) (e2 ixK (varE 10) (cE (.int 0)))) (consA (e2 subK (cE (.int 0)) (e2 ixK (varE 10) (cE (.int 1)))) (nilA)))) (consA (ifE (e2 eqK (varE 8) (cE (.str "left"))) (cE (.str "right")) (cE (.str "left"))) (consA (varE 11) (nilA))))))))))))))
def n__law_hangings : List Str := []
def b__law_hangings : SS := retS (e1 lstK (consA (e1 tupK (consA (cE (.str "first")) (consA (cE (.str "left")) (nilA)))) (consA (e1 tupK (consA (cE (.str "first")) (consA (cE (.str "right")) (nilA)))) (consA (e1 tupK (consA (cE (.str "second")) (consA (cE (.str "left")) (nilA)))) (consA (e1 tupK (consA (cE (.str "second")) (consA (cE (.str "right")) (nilA)))) (nilA))))))
def n__law_choices : List Str := ["well", "frames", "frame"]
def b__law_choices (f__law_hangings f__law_of : FnT) : SS := retS (bE tupleK (consA (lcE endL [2] (e1 iterK (varE 1)) (nameG 2) (yesE) (bE (arK 2 f__law_of) (consA (varE 0) (consA (bE f__law_hangings nilA) (nilA))))) nilA))
def n__law_near : List Str := ["well", "frame", "name", "x", "y", "x2", "y2", "rows"]
def b__law_near (f__law_of : FnT) : SS := seqS (asgS (varE 1) (tupG 5 (consG (nameG 2) (consG (nameG 3) (consG (nameG 4) (consG (nameG 5) (consG (nameG 6) (nilG)))))))) (seqS (asgS (e1 lstK (consA (e1 tupK (consA (varE 1) (consA (cE (.bl true)) (nilA)))) (consA (e1 tupK (consA (bE listK (consA (varE 1) nilA)) (consA (cE (.bl false)) (nilA)))) (consA (e1 tupK (consA (slE (varE 1) (some (cE (.int 1))) (none)) (consA (cE (.bl false)) (nilA)))) (consA (e1 tupK (consA (e2 addK (e1 tupK (consA (cE (.str "long")) (nilA))) (slE (varE 1) (some (cE (.int 1))) (none))) (consA (cE (.bl false)) (nilA)))) (consA (e1 tupK (consA (cE .non) (consA (cE (.bl false)) (nilA)))) (nilA))))))) (nameG 7)) (seqS (asgS (e2 addK (varE 7) (e1 lstK (consA (e1 tupK (consA (cE (.int 5)) (consA (cE (.bl false)) (nilA)))) (nilA)))) (nameG 7)) (seqS (asgS (e2 addK (varE 7) (e1 lstK (consA (e1 tupK (consA (e1 tupK (consA (varE 2) (consA (varE 5) (consA (varE 6) (consA (varE 3) (consA (varE 4) (nilA))))))) (consA (cE (.bl false)) (nilA)))) (consA (e1 tupK (consA (e1 tupK (consA (varE 2) (consA (varE 3) (consA (varE 4) (consA (e2 addK (varE 3) (cE (.int 1))) (consA (varE 4) (nilA))))))) (consA (cE (.bl false)) (nilA)))) (consA (e1 tupK (consA (e1 tupK (consA (varE 2) (consA (varE 3) (consA (varE 4) (consA (varE 3) (consA (varE 4) (nilA))))))) (consA (cE (.bl false)) (nilA)))) (nilA)))))) (nameG 7)) (seqS (asgS (e2 addK (varE 7) (e1 lstK (consA (e1 tupK (consA (e1 tupK (consA (varE 2) (consA (varE 3) (consA (varE 4) (consA (e2 addK (varE 3) (cE (.int 100))) (consA (varE 4) (nilA))))))) (consA (cE (.bl true)) (nilA)))) (consA (e1 tupK (consA (e1 tupK (consA (varE 2) (consA (varE 3) (consA (varE 4) (consA (e2 addK (varE 3) (cE (.int 101))) (consA (varE 4) (nilA))))))) (consA (cE (.bl false)) (nilA)))) (nilA))))) (nameG 7)) (seqS (asgS (e2 addK (varE 7) (e1 lstK (consA (e1 tupK (consA (e1 tupK (consA (varE 2) (consA (varE 3) (consA (varE 4) (consA (e2 addK (varE 3) (cE (.int 5))) (consA (e2 addK (varE 4) (cE (.int 5))) (nilA))))))) (consA (cE (.bl false)) (nilA)))) (nilA)))) (nameG 7)) (seqS (asgS (e2 addK (varE 7) (e1 lstK (consA (e1 tupK (consA (e2 addK (e1 tupK (consA (cE (.str "Zz")) (nilA))) (slE (varE 1) (some (cE (.int 1))) (none))) (consA (cE (.bl false)) (nilA)))) (consA (e1 tupK (consA (e1 tupK (consA (varE 2) (consA (e2 subK (cE (.int 0)) (cE (.int 1))) (consA (varE 4) (consA (cE (.int 5)) (consA (varE 4) (nilA))))))) (consA (cE (.bl false)) (nilA)))) (consA (e1 tupK (consA (e1 tupK (consA (varE 2) (consA (varE 3) (consA (cE (.int 190)) (consA (varE 3) (consA (cE (.int 200)) (nilA))))))) (consA (cE (.bl false)) (nilA)))) (nilA)))))) (nameG 7)) (seqS (asgS (e2 addK (varE 7) (e1 lstK (consA (e1 tupK (consA (e1 tupK (consA (varE 2) (consA (varE 3) (consA (varE 4) (consA (varE 3) (consA (e2 addK (varE 4) (cE (.int 2))) (nilA))))))) (consA (cE (.bl true)) (nilA)))) (consA (e1 tupK (consA (e1 tupK (consA (varE 2) (consA (cE (.bl true)) (consA (varE 4) (consA (cE (.int 9)) (consA (varE 4) (nilA))))))) (consA (cE (.bl false)) (nilA)))) (consA (e1 tupK (consA (e2 addK (e1 tupK (consA (cE (.str "")) (nilA))) (slE (varE 1) (some (cE (.int 1))) (none))) (consA (cE (.bl false)) (nilA)))) (nilA)))))) (nameG 7)) (retS (bE (arK 2 f__law_of) (consA (varE 0) (consA (varE 7) (nilA))))))))))))
def n__law_right : List Str := ["well", "frames", "hangings", "leaves", "k", "post", "side", "told", "value", "due", "house", "frame"]
def b__law_right (f__law_frames f__law_choices f__law_hung f_hanging_leaf f_is_leaf f__law_same f__law_near f_is_frame f_frames_house f_names_of f_is_house : FnT) : SS := seqS (asgS (bE (arK 2 f__law_frames) (consA (varE 0) (consA (cE (.int 6)) (nilA)))) (nameG 1)) (seqS (asgS (bE (arK 2 f__law_choices) (consA (varE 0) (consA (varE 1) (nilA)))) (nameG 2)) (seqS (asgS (bE tupleK (consA (lcE endL [4] (e1 rng1K (consA (bE lenK (consA (varE 1) nilA)) nilA)) (nameG 4) (yesE) (bE (arK 2 f__law_hung) (consA (e2 ixK (varE 1) (varE 4)) (consA (e2 ixK (varE 2) (varE 4)) (nilA))))) nilA)) (nameG 3)) (seqS (forS (e1 rng1K (consA (bE lenK (consA (varE 1) nilA)) nilA)) (nameG 4) (seqS (asgS (e2 ixK (varE 2) (varE 4)) (tupG 2 (consG (nameG 5) (consG (nameG 6) (nilG))))) (seqS (asgS (e1 tupK (consA (bE (arK 3 f_hanging_leaf) (consA (e2 ixK (varE 1) (varE 4)) (consA (varE 5) (consA (varE 6) (nilA))))) (consA (kwE [0, 1, 2] 2 1 f_hanging_leaf (consA (e2 ixK (varE 1) (varE 4)) (consA (varE 5) (nilA))) (consA (varE 6) (nilA))) (nilA)))) (nameG 7)) (seqS (ifS (orE (notE (bE (arK 2 f__law_same) (consA (varE 7) (consA (e1 tupK (consA (e2 ixK (varE 3) (varE 4)) (consA (e2 ixK (varE 3) (varE 4)) (nilA)))) (nilA))))) (e2 notbK (kwE [0] 0 1 f_is_leaf nilA (consA (e2 ixK (varE 7) (cE (.int 0))) (nilA))) (cE (.bl true)))) (retS (cE (.bl false))) (skipS)) (seqS (asgS (bE (arK 2 f__law_near) (consA (varE 0) (consA (e2 ixK (varE 1) (varE 4)) (nilA)))) (tupG 2 (consG (nameG 8) (consG (nameG 9) (nilG))))) (ifS (e2 neK (bE repK (consA (e1 lstK (consA (bE (arK 1 f_is_frame) (consA (varE 8) (nilA))) (consA (kwE [0] 0 1 f_is_frame nilA (consA (varE 8) (nilA))) (nilA)))) nilA)) (bE repK (consA (e1 lstK (consA (varE 9) (consA (varE 9) (nilA)))) nilA))) (retS (cE (.bl false))) (skipS))))))) (seqS (asgS (kwE [0, 1] 1 1 f_frames_house (consA (varE 1) (nilA)) (consA (varE 2) (nilA))) (nameG 10)) (seqS (ifS (notE (bE (arK 2 f__law_same) (consA (e1 tupK (consA (bE (arK 2 f_frames_house) (consA (varE 1) (consA (varE 2) (nilA)))) (consA (varE 10) (nilA)))) (consA (e1 tupK (consA (e1 tupK (consA (varE 3) (consA (e1 tupK (nilA)) (nilA)))) (consA (e1 tupK (consA (varE 3) (consA (e1 tupK (nilA)) (nilA)))) (nilA)))) (nilA))))) (retS (cE (.bl false))) (skipS)) (retS (andE (e2 isbK (kwE [0] 0 1 f_is_house nilA (consA (varE 10) (nilA))) (cE (.bl true))) (bE (arK 2 f__law_same) (consA (kwE [0] 0 1 f_names_of nilA (consA (varE 10) (nilA))) (consA (bE tupleK (consA (lcE endL [11] (e1 iterK (varE 1)) (nameG 11) (yesE) (e2 ixK (varE 11) (cE (.int 0)))) nilA)) (nilA)))))))))))
def n_law : List Str := ["script", "wells", "lap", "k"]
def b_law (f__law_well f__law_right : FnT) : SS := seqS (asgS (lcE endL [2] (e1 rng1K (consA (cE (.int 2)) nilA)) (nameG 2) (yesE) (bE (arK 2 f__law_well) (consA (varE 0) (consA (varE 2) (nilA))))) (nameG 1)) (retS (bE allK (consA (lcE endL [3] (e1 rng1K (consA (cE (.int 16)) nilA)) (nameG 3) (yesE) (bE (arK 1 f__law_right) (consA (e2 ixK (varE 1) (e2 modK (bE intK (consA (varE 3) nilA)) (cE (.int 2)))) (nilA)))) nilA)))
end K59
set_option Elab.async false
set_option linter.all false
set_option maxRecDepth 100000
set_option maxHeartbeats 4000000
namespace K59
open PySem PySem.Spec PyProof.Rows L2 G
def lam0 : LmD := lamD ((("wrong_walls" : Str) ++ ".<locals>.") ++ "<lambda>") (kid 2 (valS (nthS (defBody (top 44)) 0)))
def lam1 : LmD := lamD ((("wrong_hangings" : Str) ++ ".<locals>.") ++ "<lambda>") (kid 2 (valS (nthS (defBody (top 63)) 0)))
def nm (l _c : Nat) : Str := if l = 111 then ((("wrong_walls" : Str) ++ ".<locals>.") ++ "<lambda>") else ((("wrong_hangings" : Str) ++ ".<locals>.") ++ "<lambda>")
/-- what stands for a def as a value -/
def Fv (K : PySem.W.Frag) (k : Nat) (H : Hp) (v : V) : Prop := if k = 19 then v = .ref (He.ga K "is_next_leaf") else if k = 28 then v = .ref (He.ga K "is_next_frame") else if k = 59 then LamV lam0 H v else if k = 60 then LamV lam1 H v else False
theorem Fv.mono {K : PySem.W.Frag} (k : Nat) (H H1 : Hp) (v : V) (h : ∀ a o, H a = some o → H1 a = some o) (q : Fv K k H v) : Fv K k H1 v := by
  unfold Fv at q ⊢
  repeat' split at q
  all_goals first | (simp_all; done) | (simp_all; exact q.mono h)
def tbl (K : PySem.W.Frag) : List (Addr × Addr) := [He.cT K ("wrong_walls", none), He.cT K ("wrong_hangings", none)]
def Sg (K : PySem.W.Frag) : Sta where
  K := K
  F := Fv K
  T := (tbl K).map fun p => (p.2, nm)
  X := fun _ => none
  mono := Fv.mono
theorem hL0 {K : PySem.W.Frag} (H : Hp) (v : V) (h : LamV lam0 H v) : (Sg K).F 59 H v := by
  show Fv K 59 H v
  simpa [Fv] using h
theorem hL1 {K : PySem.W.Frag} (H : Hp) (v : V) (h : LamV lam1 H v) : (Sg K).F 60 H v := by
  show Fv K 60 H v
  simpa [Fv] using h
variable {φ : Fns} {lv : Nat} {w : World} {K : PySem.W.Frag} {mg : Str → Option Value} {base : Heap} {cdv : Value} {A : Around} {outer : List Env} {s : Shared} {H : Hp} {E : XK}
abbrev cxD (w : World) (K : PySem.W.Frag) (mg : Str → Option Value) (base : Heap) (N : List Str) (x : Str) (i : Nat) (cdv : Value) (A : Around) (outer : List Env) (s : Shared) (H : Hp) (E : XK) : Cx := cxOf (L2.CX Pg w) Pg w K mg base N x (defScope (top i)) (He.fAd K (x, none)) cdv A outer s H E
theorem dl0 {X : Cx} (C : Cxt (Sg K) Bt φ lv X lam0.scope n_wrong_walls_lam0 E) : PE X lam0.body (tD (Sg K) E (e_wrong_walls_lam0 (φ 6) (φ 18))) :=
  ce_and (ce_call (ps := ["value"]) C 18 (ca_cons (ce_var C 0) (ca_nil))) (ce_one (ce_call (ps := ["value", "before"]) C 6 (ca_cons (ce_var C 0) (ca_cons (ce_var C 1) (ca_nil)))))
theorem dl1 {X : Cx} (C : Cxt (Sg K) Bt φ lv X lam1.scope n_wrong_hangings_lam0 E) : PE X lam1.body (tD (Sg K) E (e_wrong_hangings_lam0 (φ 30))) :=
  ce_call (ps := ["value"]) C 30 (ca_cons (ce_var C 0) (ca_nil))
theorem d0 (C : Cxt (Sg K) Bt φ lv (cxD w K mg base n_is_whole "is_whole" 13 cdv A outer s H E) (defScope (top 13)) n_is_whole E) : PSs (cxD w K mg base n_is_whole "is_whole" 13 cdv A outer s H E) (defBody (top 13)) (tS (Sg K) E (b_is_whole)) :=
  cs_one (cs_ret (ce_and (ce_isi C .int (ce_var C 0) (hm := C.blt.int)) (ce_one (ce_not (ce_isi C .bl (ce_var C 0) (hm := C.blt.bool))))))
theorem d1 (C : Cxt (Sg K) Bt φ lv (cxD w K mg base n_is_number "is_number" 14 cdv A outer s H E) (defScope (top 14)) n_is_number E) : PSs (cxD w K mg base n_is_number "is_number" 14 cdv A outer s H E) (defBody (top 14)) (tS (Sg K) E (b_is_number (φ 0))) :=
  cs_cons (cs_if ((cw_or (ct_not (ct_val (ce_call (ps := ["value"]) C 0 (ca_cons (ce_var C 0) (ca_nil))))) (cw_or1 ((cw_and (ct_notn (ce_var C 1)) (cw_and1 (ct_lt C (ce_var C 0) (ce_var C 1)))).pt))).pt) (cs_one (cs_ret (ce_bl))) (cs_nil)) (cs_one (cs_ret (ce_or (ce_isn (ce_var C 2)) (ce_one (ce_le C (ce_var C 0) (ce_var C 2))))))
theorem d2 (C : Cxt (Sg K) Bt φ lv (cxD w K mg base n_is_tuple_of "is_tuple_of" 15 cdv A outer s H E) (defScope (top 15)) n_is_tuple_of E) : PSs (cxD w K mg base n_is_tuple_of "is_tuple_of" 15 cdv A outer s H E) (defBody (top 15)) (tS (Sg K) E (b_is_tuple_of)) :=
  cs_one (cs_ret (ce_and (ce_isi C .tup (ce_var C 0) (hm := C.blt.tuple)) (ce_one (ce_eq C (ce_len C (ce_var C 0)) (ce_var C 1)))))
theorem d3 (C : Cxt (Sg K) Bt φ lv (cxD w K mg base n_wrong_at "wrong_at" 16 cdv A outer s H E) (defScope (top 16)) n_wrong_at E) : PSs (cxD w K mg base n_wrong_at "wrong_at" 16 cdv A outer s H E) (defBody (top 16)) (tS (Sg K) E (b_wrong_at φ)) :=
  cs_cons (cs_if (ct_not (ct_val (ce_isi C .tup (ce_var C 0) (hm := C.blt.tuple)))) (cs_one (cs_ret (ce_lst (ca_cons (ce_non) (ca_nil))))) (cs_nil)) (cs_cons (cs_for C (passes_of rfl) (ci_enum C (ce_var C 0)) (cg_tup C (cgs_cons (cg_name C 3) (cgs_cons (cg_name C 4) (cgs_nil)))) (cs_one (cs_if ((cw_or (ct_eq C (ce_var C 3) (ce_var C 1)) (cw_or1 (ct_not (ct_val (ce_callV C 2 (ca_cons (ce_var C 4) (ca_cons (ce_slice C (ce_var C 0) (cpo_none) (cpo_some (ce_var C 3))) (ca_nil)))))))).pt) (cs_one (cs_ret (ce_lst (ca_cons (ce_var C 3) (ca_nil))))) (cs_nil)))) (cs_one (cs_ret (ce_lst (ca_nil)))))
theorem d4 (C : Cxt (Sg K) Bt φ lv (cxD w K mg base n_wrong_from_one "wrong_from_one" 17 cdv A outer s H E) (defScope (top 17)) n_wrong_from_one E) : PSs (cxD w K mg base n_wrong_from_one "wrong_from_one" 17 cdv A outer s H E) (defBody (top 17)) (tS (Sg K) E (b_wrong_from_one (φ 3))) :=
  cs_one (cs_ret (ce_ifExp ((cw_and (ct_val (ce_isi C .tup (ce_var C 0) (hm := C.blt.tuple))) (cw_and1 (ct_eq C (ce_var C 0) (ce_tup (ca_nil))))).pt) (ce_lst (ca_cons (ce_non) (ca_nil))) (ce_call (ps := ["value", "most", "is_right"]) C 3 (ca_cons (ce_var C 0) (ca_cons (ce_var C 1) (ca_cons (ce_var C 2) (ca_nil)))))))
theorem d5 (C : Cxt (Sg K) Bt φ lv (cxD w K mg base n_wrong_for_all "wrong_for_all" 18 cdv A outer s H E) (defScope (top 18)) n_wrong_for_all E) : PSs (cxD w K mg base n_wrong_for_all "wrong_for_all" 18 cdv A outer s H E) (defBody (top 18)) (tS (Sg K) E (b_wrong_for_all (φ 3))) :=
  cs_cons (cs_asg (ce_call (ps := ["value", "most", "is_right"]) C 3 (ca_cons (ce_var C 0) (ca_cons (ce_non) (ca_cons (ce_var C 2) (ca_nil))))) (cg_name C 3)) (cs_cons (cs_if ((cw_and (ct_eq C (ce_var C 3) (ce_lst (ca_nil))) (cw_and1 (ct_ne C (ce_len C (ce_var C 0)) (ce_var C 1)))).pt) (cs_one (cs_ret (ce_lst (ca_cons (ce_non) (ca_nil))))) (cs_nil)) (cs_one (cs_ret (ce_var C 3))))
theorem d6 (C : Cxt (Sg K) Bt φ lv (cxD w K mg base n_is_above_last "is_above_last" 19 cdv A outer s H E) (defScope (top 19)) n_is_above_last E) : PSs (cxD w K mg base n_is_above_last "is_above_last" 19 cdv A outer s H E) (defBody (top 19)) (tS (Sg K) E (b_is_above_last)) :=
  cs_one (cs_ret (ce_or (ce_eq C (ce_var C 1) (ce_tup (ca_nil))) (ce_one (ce_lt C (ce_ix C (ce_var C 1) (ce_neg (ce_int))) (ce_var C 0)))))
theorem d7 (C : Cxt (Sg K) Bt φ lv (cxD w K mg base n_is_word "is_word" 20 cdv A outer s H E) (defScope (top 20)) n_is_word E) : PSs (cxD w K mg base n_is_word "is_word" 20 cdv A outer s H E) (defBody (top 20)) (tS (Sg K) E (b_is_word)) :=
  cs_one (cs_ret (ce_and (ce_isi C .str (ce_var C 0) (hm := C.blt.str)) (ce_and (ce_ne C (ce_var C 0) (ce_str)) (ce_one (ce_all C (ce_lcF C finL [("letter", 1)] (ci_str (ce_var C 0)) (fun _ _ _ _ _ => cw_name C.blk _ 1) (fun _ _ _ _ _ => cts_nil) (fun _ _ _ _ _ => ce_in C.blk (ce_var C.blk 1) (ce_glob C.blk 0))))))))
theorem d8 (C : Cxt (Sg K) Bt φ lv (cxD w K mg base n_is_name "is_name" 21 cdv A outer s H E) (defScope (top 21)) n_is_name E) : PSs (cxD w K mg base n_is_name "is_name" 21 cdv A outer s H E) (defBody (top 21)) (tS (Sg K) E (b_is_name (φ 7))) :=
  cs_one (cs_ret (ce_and (ce_call (ps := ["value"]) C 7 (ca_cons (ce_var C 0) (ca_nil))) (ce_and (ce_le C (ce_len C (ce_var C 0)) (ce_glob C 1)) (ce_one (ce_nin C (ce_var C 0) (ce_glob C 2))))))
theorem d9 (C : Cxt (Sg K) Bt φ lv (cxD w K mg base n_is_one_of "is_one_of" 22 cdv A outer s H E) (defScope (top 22)) n_is_one_of E) : PSs (cxD w K mg base n_is_one_of "is_one_of" 22 cdv A outer s H E) (defBody (top 22)) (tS (Sg K) E (b_is_one_of)) :=
  cs_one (cs_ret (ce_and (ce_isi C .str (ce_var C 0) (hm := C.blt.str)) (ce_one (ce_in C (ce_var C 0) (ce_var C 1)))))
theorem d10 (C : Cxt (Sg K) Bt φ lv (cxD w K mg base n_is_heading_form "is_heading_form" 28 cdv A outer s H E) (defScope (top 28)) n_is_heading_form E) : PSs (cxD w K mg base n_is_heading_form "is_heading_form" 28 cdv A outer s H E) (defBody (top 28)) (tS (Sg K) E (b_is_heading_form (φ 1) (φ 2))) :=
  cs_cons (cs_if ((cw_or (ct_not (ct_val (ce_call (ps := ["value", "many"]) C 2 (ca_cons (ce_var C 0) (ca_cons (ce_int) (ca_nil)))))) (cw_or1 (ct_not (ct_val (ce_all C (ce_lcF C finL [("each", 1)] (ci_seq C (ce_var C 0)) (fun _ _ _ _ _ => cw_name C.blk _ 1) (fun _ _ _ _ _ => cts_nil) (fun _ _ _ _ _ => ce_call (ps := ["value", "low", "high"]) C.blk 1 (ca_cons (ce_var C.blk 1) (ca_cons (ce_sub (ce_int) (ce_glob C.blk 3)) (ca_cons (ce_glob C.blk 3) (ca_nil))))))))))).pt) (cs_one (cs_ret (ce_bl))) (cs_nil)) (cs_one (cs_ret (ce_eq C (ce_gcd C 0 (ce_ix C (ce_var C 0) (ce_int)) (ce_ix C (ce_var C 0) (ce_int))) (ce_int))))
theorem d11 (C : Cxt (Sg K) Bt φ lv (cxD w K mg base n_quarter_left "quarter_left" 29 cdv A outer s H E) (defScope (top 29)) n_quarter_left E) : PSs (cxD w K mg base n_quarter_left "quarter_left" 29 cdv A outer s H E) (defBody (top 29)) (tS (Sg K) E (b_quarter_left)) :=
  cs_one (cs_ret (ce_tup (ca_cons (ce_sub (ce_int) (ce_ix C (ce_var C 0) (ce_int))) (ca_cons (ce_ix C (ce_var C 0) (ce_int)) (ca_nil)))))
theorem d12 (C : Cxt (Sg K) Bt φ lv (cxD w K mg base n_opposite "opposite" 30 cdv A outer s H E) (defScope (top 30)) n_opposite E) : PSs (cxD w K mg base n_opposite "opposite" 30 cdv A outer s H E) (defBody (top 30)) (tS (Sg K) E (b_opposite)) :=
  cs_one (cs_ret (ce_tup (ca_cons (ce_sub (ce_int) (ce_ix C (ce_var C 0) (ce_int))) (ca_cons (ce_sub (ce_int) (ce_ix C (ce_var C 0) (ce_int))) (ca_nil)))))
theorem d13 (C : Cxt (Sg K) Bt φ lv (cxD w K mg base n_other_turn "other_turn" 31 cdv A outer s H E) (defScope (top 31)) n_other_turn E) : PSs (cxD w K mg base n_other_turn "other_turn" 31 cdv A outer s H E) (defBody (top 31)) (tS (Sg K) E (b_other_turn)) :=
  cs_one (cs_ret (ce_ifExp (ct_eq C (ce_var C 0) (ce_glob C 4)) (ce_glob C 5) (ce_glob C 4)))
theorem d14 (C : Cxt (Sg K) Bt φ lv (cxD w K mg base n_is_place_number "is_place_number" 35 cdv A outer s H E) (defScope (top 35)) n_is_place_number E) : PSs (cxD w K mg base n_is_place_number "is_place_number" 35 cdv A outer s H E) (defBody (top 35)) (tS (Sg K) E (b_is_place_number (φ 1))) :=
  cs_one (cs_ret (ce_call (ps := ["value", "low", "high"]) C 1 (ca_cons (ce_var C 0) (ca_cons (ce_int) (ca_cons (ce_glob C 7) (ca_nil))))))
theorem d15 (C : Cxt (Sg K) Bt φ lv (cxD w K mg base n_is_leaf_form "is_leaf_form" 36 cdv A outer s H E) (defScope (top 36)) n_is_leaf_form E) : PSs (cxD w K mg base n_is_leaf_form "is_leaf_form" 36 cdv A outer s H E) (defBody (top 36)) (tS (Sg K) E (b_is_leaf_form (φ 14) (φ 8) (φ 2) (φ 9) (φ 1) (φ 10))) :=
  cs_cons (cs_if ((cw_or (ct_not (ct_val (ce_call (ps := ["value", "many"]) C 2 (ca_cons (ce_var C 0) (ca_cons (ce_int) (ca_nil)))))) (cw_or (ct_not (ct_val (ce_call (ps := ["value"]) C 8 (ca_cons (ce_ix C (ce_var C 0) (ce_int)) (ca_nil))))) (cw_or1 (ct_not (ct_val (ce_all C (ce_lcF C finL [("each", 1)] (ci_seq C (ce_slice C (ce_var C 0) (cpo_some (ce_int)) (cpo_some (ce_int)))) (fun _ _ _ _ _ => cw_name C.blk _ 1) (fun _ _ _ _ _ => cts_nil) (fun _ _ _ _ _ => ce_call (ps := ["value"]) C.blk 14 (ca_cons (ce_var C.blk 1) (ca_nil)))))))))).pt) (cs_one (cs_ret (ce_bl))) (cs_nil)) (cs_cons (cs_if ((cw_or (ct_not (ct_val (ce_call (ps := ["value", "low", "high"]) C 1 (ca_cons (ce_ix C (ce_var C 0) (ce_int)) (ca_cons (ce_int) (ca_cons (ce_glob C 8) (ca_nil))))))) (cw_or1 (ct_not (ct_val (ce_call (ps := ["value", "words"]) C 9 (ca_cons (ce_ix C (ce_var C 0) (ce_int)) (ca_cons (ce_glob C 6) (ca_nil)))))))).pt) (cs_one (cs_ret (ce_bl))) (cs_nil)) (cs_one (cs_ret (ce_and (ce_call (ps := ["value"]) C 10 (ca_cons (ce_ix C (ce_var C 0) (ce_int)) (ca_nil))) (ce_and (ce_call (ps := ["value"]) C 10 (ca_cons (ce_ix C (ce_var C 0) (ce_int)) (ca_nil))) (ce_one (ce_ne C (ce_ix C (ce_var C 0) (ce_int)) (ce_ix C (ce_var C 0) (ce_int)))))))))
theorem d16 (C : Cxt (Sg K) Bt φ lv (cxD w K mg base n_name_in "name_in" 37 cdv A outer s H E) (defScope (top 37)) n_name_in E) : PSs (cxD w K mg base n_name_in "name_in" 37 cdv A outer s H E) (defBody (top 37)) (tS (Sg K) E (b_name_in)) :=
  cs_one (cs_ret (ce_ix C (ce_var C 0) (ce_int)))
theorem d17 (C : Cxt (Sg K) Bt φ lv (cxD w K mg base n_hinge_of "hinge_of" 38 cdv A outer s H E) (defScope (top 38)) n_hinge_of E) : PSs (cxD w K mg base n_hinge_of "hinge_of" 38 cdv A outer s H E) (defBody (top 38)) (tS (Sg K) E (b_hinge_of)) :=
  cs_one (cs_ret (ce_slice C (ce_var C 0) (cpo_some (ce_int)) (cpo_some (ce_int))))
theorem d18 (C : Cxt (Sg K) Bt φ lv (cxD w K mg base n_is_wall_form "is_wall_form" 42 cdv A outer s H E) (defScope (top 42)) n_is_wall_form E) : PSs (cxD w K mg base n_is_wall_form "is_wall_form" 42 cdv A outer s H E) (defBody (top 42)) (tS (Sg K) E (b_is_wall_form (φ 14) (φ 2))) :=
  cs_cons (cs_if ((cw_or (ct_not (ct_val (ce_call (ps := ["value", "many"]) C 2 (ca_cons (ce_var C 0) (ca_cons (ce_int) (ca_nil)))))) (cw_or1 (ct_not (ct_val (ce_all C (ce_lcF C finL [("each", 1)] (ci_seq C (ce_var C 0)) (fun _ _ _ _ _ => cw_name C.blk _ 1) (fun _ _ _ _ _ => cts_nil) (fun _ _ _ _ _ => ce_call (ps := ["value"]) C.blk 14 (ca_cons (ce_var C.blk 1) (ca_nil))))))))).pt) (cs_one (cs_ret (ce_bl))) (cs_nil)) (cs_one (cs_ret (ce_le C (ce_slice C (ce_var C 0) (cpo_none) (cpo_some (ce_int))) (ce_slice C (ce_var C 0) (cpo_some (ce_int)) (cpo_none)))))
theorem d19 (C : Cxt (Sg K) Bt φ lv (cxD w K mg base n_is_next_leaf "is_next_leaf" 43 cdv A outer s H E) (defScope (top 43)) n_is_next_leaf E) : PSs (cxD w K mg base n_is_next_leaf "is_next_leaf" 43 cdv A outer s H E) (defBody (top 43)) (tS (Sg K) E (b_is_next_leaf (φ 15) (φ 17))) :=
  cs_cons (cs_if ((cw_or (ct_not (ct_val (ce_call (ps := ["value"]) C 15 (ca_cons (ce_var C 0) (ca_nil))))) (cw_or1 ((cw_and (ct_ne C (ce_var C 1) (ce_tup (ca_nil))) (cw_and1 (ct_ge (ce_ix C (ce_ix C (ce_var C 1) (ce_neg (ce_int))) (ce_int)) (ce_ix C (ce_var C 0) (ce_int))))).pt))).pt) (cs_one (cs_ret (ce_bl))) (cs_nil)) (cs_one (cs_ret (ce_nin C (ce_call (ps := ["leaf"]) C 17 (ca_cons (ce_var C 0) (ca_nil))) (ce_lcF C finL [("leaf", 2)] (ci_seq C (ce_var C 1)) (fun _ _ _ _ _ => cw_name C.blk _ 2) (fun _ _ _ _ _ => cts_nil) (fun _ _ _ _ _ => ce_call (ps := ["leaf"]) C.blk 17 (ca_cons (ce_var C.blk 2) (ca_nil)))))))
theorem d20 (C : Cxt (Sg K) Bt φ lv (cxD w K mg base n_wrong_walls "wrong_walls" 44 cdv A outer s H E) (defScope (top 44)) n_wrong_walls E) {c P : Addr} (LA : LamAt (Sg K) (cxD w K mg base n_wrong_walls "wrong_walls" 44 cdv A outer s H E) c P nm) : PSs (cxD w K mg base n_wrong_walls "wrong_walls" 44 cdv A outer s H E) (defBody (top 44)) (tS (Sg K) E (b_wrong_walls (φ 3) 59)) :=
  cs_one (cs_ret (ce_call (ps := ["value", "most", "is_right"]) C 3 (ca_cons (ce_var C 0) (ca_cons (ce_glob C 10) (ca_cons (ce_lam LA 59 (fun H v h => hL0 H v h) rfl) (ca_nil))))))
theorem d21 (C : Cxt (Sg K) Bt φ lv (cxD w K mg base n_is_house_form "is_house_form" 45 cdv A outer s H E) (defScope (top 45)) n_is_house_form E) : PSs (cxD w K mg base n_is_house_form "is_house_form" 45 cdv A outer s H E) (defBody (top 45)) (tS (Sg K) E (b_is_house_form (φ 4) (φ 2) (φ 20) 19)) :=
  cs_cons (cs_if ((cw_or (ct_not (ct_val (ce_call (ps := ["value", "many"]) C 2 (ca_cons (ce_var C 0) (ca_cons (ce_int) (ca_nil)))))) (cw_or1 (ct_ne C (ce_call (ps := ["value", "most", "is_right"]) C 4 (ca_cons (ce_ix C (ce_var C 0) (ce_int)) (ca_cons (ce_glob C 9) (ca_cons (ce_glob C 17) (ca_nil))))) (ce_lst (ca_nil))))).pt) (cs_one (cs_ret (ce_bl))) (cs_nil)) (cs_one (cs_ret (ce_eq C (ce_call (ps := ["value"]) C 20 (ca_cons (ce_ix C (ce_var C 0) (ce_int)) (ca_nil))) (ce_lst (ca_nil)))))
theorem d22 (C : Cxt (Sg K) Bt φ lv (cxD w K mg base n_leaf_names "leaf_names" 46 cdv A outer s H E) (defScope (top 46)) n_leaf_names E) : PSs (cxD w K mg base n_leaf_names "leaf_names" 46 cdv A outer s H E) (defBody (top 46)) (tS (Sg K) E (b_leaf_names (φ 16))) :=
  cs_one (cs_ret (ce_tuple C (ce_lcF C finL [("leaf", 1)] (ci_seq C (ce_ix C (ce_var C 0) (ce_int))) (fun _ _ _ _ _ => cw_name C.blk _ 1) (fun _ _ _ _ _ => cts_nil) (fun _ _ _ _ _ => ce_call (ps := ["leaf"]) C.blk 16 (ca_cons (ce_var C.blk 1) (ca_nil))))))
theorem d23 (C : Cxt (Sg K) Bt φ lv (cxD w K mg base n_check_turn "check_turn" 48 cdv A outer s H E) (defScope (top 48)) n_check_turn E) : PSs (cxD w K mg base n_check_turn "check_turn" 48 cdv A outer s H E) (defBody (top 48)) (tS (Sg K) E (b_check_turn (φ 9))) :=
  cs_one (cs_if (ct_not (ct_val (ce_call (ps := ["value", "words"]) C 9 (ca_cons (ce_var C 0) (ca_cons (ce_glob C 6) (ca_nil)))))) (cs_one (cs_no)) (cs_nil))
theorem d24 (C : Cxt (Sg K) Bt φ lv (cxD w K mg base n_check_house "check_house" 49 cdv A outer s H E) (defScope (top 49)) n_check_house E) : PSs (cxD w K mg base n_check_house "check_house" 49 cdv A outer s H E) (defBody (top 49)) (tS (Sg K) E (b_check_house (φ 21))) :=
  cs_one (cs_if (ct_not (ct_val (ce_call (ps := ["value"]) C 21 (ca_cons (ce_var C 0) (ca_nil))))) (cs_one (cs_no)) (cs_nil))
theorem d25 (C : Cxt (Sg K) Bt φ lv (cxD w K mg base n_wide_of "wide_of" 57 cdv A outer s H E) (defScope (top 57)) n_wide_of E) : PSs (cxD w K mg base n_wide_of "wide_of" 57 cdv A outer s H E) (defBody (top 57)) (tS (Sg K) E (b_wide_of)) :=
  cs_one (cs_ret (ce_sub (ce_add C (ce_sub (ce_ix C (ce_var C 0) (ce_int)) (ce_ix C (ce_var C 0) (ce_int))) (ce_ix C (ce_var C 0) (ce_int))) (ce_ix C (ce_var C 0) (ce_int))))
theorem d26 (C : Cxt (Sg K) Bt φ lv (cxD w K mg base n_is_frame_form "is_frame_form" 58 cdv A outer s H E) (defScope (top 58)) n_is_frame_form E) : PSs (cxD w K mg base n_is_frame_form "is_frame_form" 58 cdv A outer s H E) (defBody (top 58)) (tS (Sg K) E (b_is_frame_form (φ 14) (φ 8) (φ 2) (φ 25))) :=
  cs_cons (cs_if ((cw_or (ct_not (ct_val (ce_call (ps := ["value", "many"]) C 2 (ca_cons (ce_var C 0) (ca_cons (ce_int) (ca_nil)))))) (cw_or (ct_not (ct_val (ce_call (ps := ["value"]) C 8 (ca_cons (ce_ix C (ce_var C 0) (ce_int)) (ca_nil))))) (cw_or1 (ct_not (ct_val (ce_all C (ce_lcF C finL [("each", 1)] (ci_seq C (ce_slice C (ce_var C 0) (cpo_some (ce_int)) (cpo_none))) (fun _ _ _ _ _ => cw_name C.blk _ 1) (fun _ _ _ _ _ => cts_nil) (fun _ _ _ _ _ => ce_call (ps := ["value"]) C.blk 14 (ca_cons (ce_var C.blk 1) (ca_nil)))))))))).pt) (cs_one (cs_ret (ce_bl))) (cs_nil)) (cs_cons (cs_if ((cw_or ((cw_and (ct_ne C (ce_ix C (ce_var C 0) (ce_int)) (ce_ix C (ce_var C 0) (ce_int))) (cw_and1 (ct_ne C (ce_ix C (ce_var C 0) (ce_int)) (ce_ix C (ce_var C 0) (ce_int))))).pt) (cw_or (ct_gt (ce_ix C (ce_var C 0) (ce_int)) (ce_ix C (ce_var C 0) (ce_int))) (cw_or1 (ct_gt (ce_ix C (ce_var C 0) (ce_int)) (ce_ix C (ce_var C 0) (ce_int)))))).pt) (cs_one (cs_ret (ce_bl))) (cs_nil)) (cs_one (cs_ret (ce_lele C (ce_glob C 15) (ce_call (ps := ["frame"]) C 25 (ca_cons (ce_var C 0) (ca_nil))) (ce_glob C 16)))))
theorem d27 (C : Cxt (Sg K) Bt φ lv (cxD w K mg base n_do_frames_touch "do_frames_touch" 59 cdv A outer s H E) (defScope (top 59)) n_do_frames_touch E) : PSs (cxD w K mg base n_do_frames_touch "do_frames_touch" 59 cdv A outer s H E) (defBody (top 59)) (tS (Sg K) E (b_do_frames_touch)) :=
  cs_cons (cs_if ((cw_or (ct_gt (ce_ix C (ce_var C 0) (ce_int)) (ce_ix C (ce_var C 1) (ce_int))) (cw_or1 (ct_gt (ce_ix C (ce_var C 1) (ce_int)) (ce_ix C (ce_var C 0) (ce_int))))).pt) (cs_one (cs_ret (ce_bl))) (cs_nil)) (cs_one (cs_ret (ce_and (ce_le C (ce_ix C (ce_var C 0) (ce_int)) (ce_ix C (ce_var C 1) (ce_int))) (ce_one (ce_le C (ce_ix C (ce_var C 1) (ce_int)) (ce_ix C (ce_var C 0) (ce_int)))))))
theorem d28 (C : Cxt (Sg K) Bt φ lv (cxD w K mg base n_is_next_frame "is_next_frame" 60 cdv A outer s H E) (defScope (top 60)) n_is_next_frame E) : PSs (cxD w K mg base n_is_next_frame "is_next_frame" 60 cdv A outer s H E) (defBody (top 60)) (tS (Sg K) E (b_is_next_frame (φ 26) (φ 27))) :=
  cs_cons (cs_if ((cw_or (ct_not (ct_val (ce_call (ps := ["value"]) C 26 (ca_cons (ce_var C 0) (ca_nil))))) (cw_or1 ((cw_and (ct_ne C (ce_var C 1) (ce_tup (ca_nil))) (cw_and1 (ct_ge (ce_ix C (ce_ix C (ce_var C 1) (ce_neg (ce_int))) (ce_int)) (ce_ix C (ce_var C 0) (ce_int))))).pt))).pt) (cs_one (cs_ret (ce_bl))) (cs_nil)) (cs_one (cs_ret (ce_not (ce_any C (ce_lcF C finL [("frame", 2)] (ci_seq C (ce_var C 1)) (fun _ _ _ _ _ => cw_name C.blk _ 2) (fun _ _ _ _ _ => cts_nil) (fun _ _ _ _ _ => ce_call (ps := ["one", "two"]) C.blk 27 (ca_cons (ce_var C.blk 2) (ca_cons (ce_var C.blk 0) (ca_nil)))))))))
theorem d29 (C : Cxt (Sg K) Bt φ lv (cxD w K mg base n_wrong_frames "wrong_frames" 61 cdv A outer s H E) (defScope (top 61)) n_wrong_frames E) : PSs (cxD w K mg base n_wrong_frames "wrong_frames" 61 cdv A outer s H E) (defBody (top 61)) (tS (Sg K) E (b_wrong_frames (φ 4) 28)) :=
  cs_one (cs_ret (ce_call (ps := ["value", "most", "is_right"]) C 4 (ca_cons (ce_var C 0) (ca_cons (ce_glob C 14) (ca_cons (ce_glob C 18) (ca_nil))))))
theorem d30 (C : Cxt (Sg K) Bt φ lv (cxD w K mg base n_is_hanging "is_hanging" 62 cdv A outer s H E) (defScope (top 62)) n_is_hanging E) : PSs (cxD w K mg base n_is_hanging "is_hanging" 62 cdv A outer s H E) (defBody (top 62)) (tS (Sg K) E (b_is_hanging (φ 9) (φ 2))) :=
  cs_one (cs_ret (ce_and (ce_call (ps := ["value", "many"]) C 2 (ca_cons (ce_var C 0) (ca_cons (ce_int) (ca_nil)))) (ce_and (ce_call (ps := ["value", "words"]) C 9 (ca_cons (ce_ix C (ce_var C 0) (ce_int)) (ca_cons (ce_glob C 13) (ca_nil)))) (ce_one (ce_call (ps := ["value", "words"]) C 9 (ca_cons (ce_ix C (ce_var C 0) (ce_int)) (ca_cons (ce_glob C 6) (ca_nil))))))))
theorem d31 (C : Cxt (Sg K) Bt φ lv (cxD w K mg base n_wrong_hangings "wrong_hangings" 63 cdv A outer s H E) (defScope (top 63)) n_wrong_hangings E) {c P : Addr} (LA : LamAt (Sg K) (cxD w K mg base n_wrong_hangings "wrong_hangings" 63 cdv A outer s H E) c P nm) : PSs (cxD w K mg base n_wrong_hangings "wrong_hangings" 63 cdv A outer s H E) (defBody (top 63)) (tS (Sg K) E (b_wrong_hangings (φ 5) 60)) :=
  cs_one (cs_ret (ce_call (ps := ["value", "many", "is_right"]) C 5 (ca_cons (ce_var C 1) (ca_cons (ce_len C (ce_var C 0)) (ca_cons (ce_lam LA 60 (fun H v h => hL1 H v h) rfl) (ca_nil))))))
theorem d32 (C : Cxt (Sg K) Bt φ lv (cxD w K mg base n_heading_along "heading_along" 64 cdv A outer s H E) (defScope (top 64)) n_heading_along E) : PSs (cxD w K mg base n_heading_along "heading_along" 64 cdv A outer s H E) (defBody (top 64)) (tS (Sg K) E (b_heading_along)) :=
  cs_one (cs_ret (ce_ifExp (ct_lt C (ce_ix C (ce_var C 0) (ce_int)) (ce_ix C (ce_var C 0) (ce_int))) (ce_tup (ca_cons (ce_int) (ca_cons (ce_int) (ca_nil)))) (ce_tup (ca_cons (ce_int) (ca_cons (ce_int) (ca_nil))))))
theorem d33 (C : Cxt (Sg K) Bt φ lv (cxD w K mg base n_hung_leaf "hung_leaf" 65 cdv A outer s H E) (defScope (top 65)) n_hung_leaf E) : PSs (cxD w K mg base n_hung_leaf "hung_leaf" 65 cdv A outer s H E) (defBody (top 65)) (tS (Sg K) E (b_hung_leaf (φ 25) (φ 32) (φ 11) (φ 12) (φ 13))) :=
  cs_cons (cs_par2 C 3 4 (ca_cons (ce_call (ps := ["frame"]) C 32 (ca_cons (ce_var C 0) (ca_nil))) (ca_cons (ce_sub (ce_call (ps := ["frame"]) C 25 (ca_cons (ce_var C 0) (ca_nil))) (ce_int)) (ca_nil)))) (cs_cons (cs_asg (ce_ifExp (ct_eq C (ce_var C 2) (ce_glob C 4)) (ce_call (ps := ["vector"]) C 11 (ca_cons (ce_var C 3) (ca_nil))) (ce_call (ps := ["vector"]) C 12 (ca_cons (ce_call (ps := ["vector"]) C 11 (ca_cons (ce_var C 3) (ca_nil))) (ca_nil)))) (cg_name C 5)) (cs_cons (cs_if (ct_eq C (ce_var C 1) (ce_glob C 11)) (cs_one (cs_ret (ce_tup (ca_cons (ce_ix C (ce_var C 0) (ce_int)) (ca_cons (ce_ix C (ce_var C 0) (ce_int)) (ca_cons (ce_ix C (ce_var C 0) (ce_int)) (ca_cons (ce_var C 4) (ca_cons (ce_var C 3) (ca_cons (ce_var C 2) (ca_cons (ce_var C 5) (ca_nil))))))))))) (cs_nil)) (cs_one (cs_ret (ce_tup (ca_cons (ce_ix C (ce_var C 0) (ce_int)) (ca_cons (ce_ix C (ce_var C 0) (ce_int)) (ca_cons (ce_ix C (ce_var C 0) (ce_int)) (ca_cons (ce_var C 4) (ca_cons (ce_call (ps := ["vector"]) C 12 (ca_cons (ce_var C 3) (ca_nil))) (ca_cons (ce_call (ps := ["turn"]) C 13 (ca_cons (ce_var C 2) (ca_nil))) (ca_cons (ce_var C 5) (ca_nil)))))))))))))
theorem d34 (C : Cxt (Sg K) Bt φ lv (cxD w K mg base n_hung_by "hung_by" 66 cdv A outer s H E) (defScope (top 66)) n_hung_by E) : PSs (cxD w K mg base n_hung_by "hung_by" 66 cdv A outer s H E) (defBody (top 66)) (tS (Sg K) E (b_hung_by (φ 33))) :=
  cs_cons (cs_asg (ce_var C 1) (cg_tup C (cgs_cons (cg_name C 2) (cgs_cons (cg_name C 3) (cgs_nil))))) (cs_one (cs_ret (ce_call (ps := ["frame", "post", "side"]) C 33 (ca_cons (ce_var C 0) (ca_cons (ce_var C 2) (ca_cons (ce_var C 3) (ca_nil)))))))
theorem d35 (C : Cxt (Sg K) Bt φ lv (cxD w K mg base n_all_hung "all_hung" 67 cdv A outer s H E) (defScope (top 67)) n_all_hung E) : PSs (cxD w K mg base n_all_hung "all_hung" 67 cdv A outer s H E) (defBody (top 67)) (tS (Sg K) E (b_all_hung (φ 34))) :=
  cs_one (cs_ret (ce_tuple C (ce_lcF C finL [("frame", 2), ("hanging", 3)] (ci_zip C (ce_var C 0) (ce_var C 1)) (fun _ _ _ _ _ => cw_tup C.blk (cw_cons (cw_name C.blk _ 2) (cw_cons (cw_name C.blk _ 3) (cw_nil)))) (fun _ _ _ _ _ => cts_nil) (fun _ _ _ _ _ => ce_call (ps := ["frame", "hanging"]) C.blk 34 (ca_cons (ce_var C.blk 2) (ca_cons (ce_var C.blk 3) (ca_nil)))))))
theorem d36 (C : Cxt (Sg K) Bt φ lv (cxD w K mg base n_check_frame "check_frame" 69 cdv A outer s H E) (defScope (top 69)) n_check_frame E) : PSs (cxD w K mg base n_check_frame "check_frame" 69 cdv A outer s H E) (defBody (top 69)) (tS (Sg K) E (b_check_frame (φ 26))) :=
  cs_one (cs_if (ct_not (ct_val (ce_call (ps := ["value"]) C 26 (ca_cons (ce_var C 0) (ca_nil))))) (cs_one (cs_no)) (cs_nil))
theorem d37 (C : Cxt (Sg K) Bt φ lv (cxD w K mg base n_check_post "check_post" 70 cdv A outer s H E) (defScope (top 70)) n_check_post E) : PSs (cxD w K mg base n_check_post "check_post" 70 cdv A outer s H E) (defBody (top 70)) (tS (Sg K) E (b_check_post (φ 9))) :=
  cs_one (cs_if (ct_not (ct_val (ce_call (ps := ["value", "words"]) C 9 (ca_cons (ce_var C 0) (ca_cons (ce_glob C 13) (ca_nil)))))) (cs_one (cs_no)) (cs_nil))
theorem d38 (C : Cxt (Sg K) Bt φ lv (cxD w K mg base n_check_frames "check_frames" 71 cdv A outer s H E) (defScope (top 71)) n_check_frames E) : PSs (cxD w K mg base n_check_frames "check_frames" 71 cdv A outer s H E) (defBody (top 71)) (tS (Sg K) E (b_check_frames (φ 29))) :=
  cs_one (cs_for C (passes_of rfl) (ci_seq C (ce_call (ps := ["value"]) C 29 (ca_cons (ce_var C 0) (ca_nil)))) (cg_name C 1) (cs_one (cs_no)))
theorem d39 (C : Cxt (Sg K) Bt φ lv (cxD w K mg base n_check_hangings "check_hangings" 72 cdv A outer s H E) (defScope (top 72)) n_check_hangings E) : PSs (cxD w K mg base n_check_hangings "check_hangings" 72 cdv A outer s H E) (defBody (top 72)) (tS (Sg K) E (b_check_hangings (φ 38) (φ 31))) :=
  cs_cons (cs_expr (ce_call (ps := ["value"]) C 38 (ca_cons (ce_var C 0) (ca_nil)))) (cs_one (cs_for C (passes_of rfl) (ci_seq C (ce_call (ps := ["frames", "value"]) C 31 (ca_cons (ce_var C 0) (ca_cons (ce_var C 1) (ca_nil))))) (cg_name C 2) (cs_one (cs_no))))
theorem d40 (C : Cxt (Sg K) Bt φ lv (cxD w K mg base n_is_frame "is_frame" 73 cdv A outer s H E) (defScope (top 73)) n_is_frame E) : PSs (cxD w K mg base n_is_frame "is_frame" 73 cdv A outer s H E) (defBody (top 73)) (tS (Sg K) E (b_is_frame (φ 26))) :=
  cs_one (cs_ret (ce_call (ps := ["value"]) C 26 (ca_cons (ce_var C 0) (ca_nil))))
theorem d41 (C : Cxt (Sg K) Bt φ lv (cxD w K mg base n_hanging_leaf "hanging_leaf" 74 cdv A outer s H E) (defScope (top 74)) n_hanging_leaf E) : PSs (cxD w K mg base n_hanging_leaf "hanging_leaf" 74 cdv A outer s H E) (defBody (top 74)) (tS (Sg K) E (b_hanging_leaf (φ 36) (φ 37) (φ 23) (φ 33))) :=
  cs_cons (cs_expr (ce_call (ps := ["value"]) C 36 (ca_cons (ce_var C 0) (ca_nil)))) (cs_cons (cs_expr (ce_call (ps := ["value"]) C 37 (ca_cons (ce_var C 1) (ca_nil)))) (cs_cons (cs_expr (ce_call (ps := ["value"]) C 23 (ca_cons (ce_var C 2) (ca_nil)))) (cs_one (cs_ret (ce_call (ps := ["frame", "post", "side"]) C 33 (ca_cons (ce_var C 0) (ca_cons (ce_var C 1) (ca_cons (ce_var C 2) (ca_nil)))))))))
theorem d42 (C : Cxt (Sg K) Bt φ lv (cxD w K mg base n_frames_house "frames_house" 75 cdv A outer s H E) (defScope (top 75)) n_frames_house E) : PSs (cxD w K mg base n_frames_house "frames_house" 75 cdv A outer s H E) (defBody (top 75)) (tS (Sg K) E (b_frames_house (φ 39) (φ 35))) :=
  cs_cons (cs_expr (ce_call (ps := ["frames", "hangings"]) C 39 (ca_cons (ce_var C 0) (ca_cons (ce_var C 1) (ca_nil))))) (cs_one (cs_ret (ce_tup (ca_cons (ce_call (ps := ["frames", "hangings"]) C 35 (ca_cons (ce_var C 0) (ca_cons (ce_var C 1) (ca_nil)))) (ca_cons (ce_tup (ca_nil)) (ca_nil))))))
theorem d43 (C : Cxt (Sg K) Bt φ lv (cxD w K mg base n_is_house "is_house" 77 cdv A outer s H E) (defScope (top 77)) n_is_house E) : PSs (cxD w K mg base n_is_house "is_house" 77 cdv A outer s H E) (defBody (top 77)) (tS (Sg K) E (b_is_house (φ 21))) :=
  cs_one (cs_ret (ce_call (ps := ["value"]) C 21 (ca_cons (ce_var C 0) (ca_nil))))
theorem d44 (C : Cxt (Sg K) Bt φ lv (cxD w K mg base n_names_of "names_of" 78 cdv A outer s H E) (defScope (top 78)) n_names_of E) : PSs (cxD w K mg base n_names_of "names_of" 78 cdv A outer s H E) (defBody (top 78)) (tS (Sg K) E (b_names_of (φ 24) (φ 22))) :=
  cs_cons (cs_expr (ce_call (ps := ["value"]) C 24 (ca_cons (ce_var C 0) (ca_nil)))) (cs_one (cs_ret (ce_call (ps := ["house"]) C 22 (ca_cons (ce_var C 0) (ca_nil)))))
theorem d45 (C : Cxt (Sg K) Bt φ lv (cxD w K mg base n_is_leaf "is_leaf" 80 cdv A outer s H E) (defScope (top 80)) n_is_leaf E) : PSs (cxD w K mg base n_is_leaf "is_leaf" 80 cdv A outer s H E) (defBody (top 80)) (tS (Sg K) E (b_is_leaf (φ 15))) :=
  cs_one (cs_ret (ce_call (ps := ["value"]) C 15 (ca_cons (ce_var C 0) (ca_nil))))
theorem d46 (C : Cxt (Sg K) Bt φ lv (cxD w K mg base n__law_well "_law_well" 82 cdv A outer s H E) (defScope (top 82)) n__law_well E) : PSs (cxD w K mg base n__law_well "_law_well" 82 cdv A outer s H E) (defBody (top 82)) (tS (Sg K) E (b__law_well)) :=
  cs_cons (cs_asg (ce_add C (ce_int) (ce_mul (ce_int) (ce_var C 1))) (cg_name C 2)) (cs_cons (cs_for C (passes_of rfl) (ci_seq C (ce_slice C (ce_var C 0) (cpo_none) (cpo_some (ce_int)))) (cg_name C 3) (cs_one (cs_asg (ce_mod (ce_intc C (ce_add C (ce_add C (ce_mul (ce_var C 2) (ce_int)) (ce_mod (ce_intc C (ce_var C 3)) (ce_int))) (ce_int))) (ce_int)) (cg_name C 2)))) (cs_cons (cs_asg (ce_ifExp (ct_lt C (ce_var C 1) (ce_len C (ce_var C 0))) (ce_intc C (ce_ix C (ce_var C 0) (ce_var C 1))) (ce_int)) (cg_name C 4)) (cs_cons (cs_asg (ce_mod (ce_intc C (ce_add C (ce_add C (ce_mul (ce_var C 2) (ce_int)) (ce_mul (ce_mod (ce_intc C (ce_var C 4)) (ce_int)) (ce_int))) (ce_int))) (ce_int)) (cg_name C 2)) (cs_one (cs_ret (ce_new (ca_cons (ce_ifExp ((cw_or (ct_lt C (ce_var C 4) (ce_int)) (cw_or1 (ct_ge (ce_var C 4) (ce_pow (ce_int) (ce_int))))).pt) (ce_abs C (ce_var C 4)) (ce_int)) (ca_cons (ce_var C 2) (ca_cons (ce_int) (ca_nil))))))))))
theorem d47 (C : Cxt (Sg K) Bt φ lv (cxD w K mg base n__law_draw "_law_draw" 83 cdv A outer s H E) (defScope (top 83)) n__law_draw E) : PSs (cxD w K mg base n__law_draw "_law_draw" 83 cdv A outer s H E) (defBody (top 83)) (tS (Sg K) E (b__law_draw)) :=
  cs_cons (cs_if (ct_gt (ce_ix C (ce_var C 0) (ce_int)) (ce_int)) (cs_cons (cs_asg (ce_divmod C (ce_ix C (ce_var C 0) (ce_int)) (ce_var C 1)) (cg_tup C (cgs_cons (cg_sub C (ce_var C 0) (ce_int)) (cgs_cons (cg_name C 2) (cgs_nil))))) (cs_one (cs_ret (ce_var C 2)))) (cs_nil)) (cs_cons (cs_asg (ce_add C (ce_ix C (ce_var C 0) (ce_int)) (ce_int)) (cg_sub C (ce_var C 0) (ce_int))) (cs_cons (cs_asg (ce_mod (ce_intc C (ce_add C (ce_add C (ce_mul (ce_ix C (ce_var C 0) (ce_int)) (ce_int)) (ce_mul (ce_int) (ce_ix C (ce_var C 0) (ce_int)))) (ce_int))) (ce_int)) (cg_name C 3)) (cs_cons (cs_asg (ce_mod (ce_intc C (ce_add C (ce_mul (ce_var C 3) (ce_add C (ce_mod (ce_intc C (ce_var C 3)) (ce_int)) (ce_int))) (ce_ix C (ce_var C 0) (ce_int)))) (ce_int)) (cg_sub C (ce_var C 0) (ce_int))) (cs_one (cs_ret (ce_mod (ce_intc C (ce_div (ce_ix C (ce_var C 0) (ce_int)) (ce_int))) (ce_var C 1)))))))
theorem d48 (C : Cxt (Sg K) Bt φ lv (cxD w K mg base n__law_of "_law_of" 84 cdv A outer s H E) (defScope (top 84)) n__law_of E) : PSs (cxD w K mg base n__law_of "_law_of" 84 cdv A outer s H E) (defBody (top 84)) (tS (Sg K) E (b__law_of (φ 47))) :=
  cs_one (cs_ret (ce_ix C (ce_var C 1) (ce_call (ps := ["well", "limit"]) C 47 (ca_cons (ce_var C 0) (ca_cons (ce_len C (ce_var C 1)) (ca_nil))))))
theorem d49 (C : Cxt (Sg K) Bt φ lv (cxD w K mg base n__law_same "_law_same" 85 cdv A outer s H E) (defScope (top 85)) n__law_same E) : PSs (cxD w K mg base n__law_same "_law_same" 85 cdv A outer s H E) (defBody (top 85)) (tS (Sg K) E (b__law_same (φ 49))) :=
  cs_cons (cs_if ((cw_and (ct_val (ce_isi C .tup (ce_var C 0) (hm := C.blt.tuple))) (cw_and1 (ct_val (ce_isi C .tup (ce_var C 1) (hm := C.blt.tuple))))).pt) (cs_one (cs_ret (ce_and (ce_eq C (ce_len C (ce_var C 0)) (ce_len C (ce_var C 1))) (ce_one (ce_all C (ce_lcF C finL [("k", 2)] (ci_range1 C (ce_len C (ce_var C 0))) (fun _ _ _ _ _ => cw_name C.blk _ 2) (fun _ _ _ _ _ => cts_nil) (fun _ _ _ _ _ => ce_call (ps := ["one", "two"]) C.blk 49 (ca_cons (ce_ix C.blk (ce_var C.blk 0) (ce_var C.blk 2)) (ca_cons (ce_ix C.blk (ce_var C.blk 1) (ce_var C.blk 2)) (ca_nil)))))))))) (cs_nil)) (cs_cons (cs_if ((cw_or (ct_ne C (ce_isi C .bl (ce_var C 0) (hm := C.blt.bool)) (ce_isi C .bl (ce_var C 1) (hm := C.blt.bool))) (cw_or1 (ct_ne C (ce_isi C .int (ce_var C 0) (hm := C.blt.int)) (ce_isi C .int (ce_var C 1) (hm := C.blt.int))))).pt) (cs_one (cs_ret (ce_bl))) (cs_nil)) (cs_one (cs_ret (ce_and (ce_eq C (ce_isi C .tup (ce_var C 0) (hm := C.blt.tuple)) (ce_isi C .tup (ce_var C 1) (hm := C.blt.tuple))) (ce_one (ce_eq C (ce_var C 0) (ce_var C 1)))))))
theorem d50 (C : Cxt (Sg K) Bt φ lv (cxD w K mg base n__law_names "_law_names" 86 cdv A outer s H E) (defScope (top 86)) n__law_names E) : PSs (cxD w K mg base n__law_names "_law_names" 86 cdv A outer s H E) (defBody (top 86)) (tS (Sg K) E (b__law_names (φ 48))) :=
  cs_cons (cs_par2 C 2 3 (ca_cons (ce_new (ca_nil)) (ca_cons (ce_str) (ca_nil)))) (cs_cons (cs_asg (ce_str) (cg_name C 4)) (cs_cons (cs_asg (ce_add C (ce_split C (ce_var C 4) (ce_str)) (ce_split C (ce_str) (ce_str))) (cg_name C 4)) (cs_cons (cs_for C (passes_of rfl) (ci_range1 C (ce_var C 1)) (cg_name C 5) (cs_cons (cs_asg (ce_str) (cg_name C 6)) (cs_cons (cs_for C (passes_of rfl) (ci_range1 C (ce_call (ps := ["well", "some"]) C 48 (ca_cons (ce_var C 0) (ca_cons (ce_tup (ca_cons (ce_int) (ca_cons (ce_int) (ca_cons (ce_int) (ca_cons (ce_int) (ca_cons (ce_int) (ca_nil))))))) (ca_nil))))) (cg_name C 7) (cs_one (cs_asg (ce_add C (ce_var C 6) (ce_call (ps := ["well", "some"]) C 48 (ca_cons (ce_var C 0) (ca_cons (ce_var C 3) (ca_nil))))) (cg_name C 6)))) (cs_cons (cs_asg (ce_add C (ce_var C 6) (ce_ix C (ce_var C 3) (ce_var C 5))) (cg_name C 6)) (cs_one (cs_expr (ce_append C (ce_var C 2) (ce_ifExp (ct_in C (ce_var C 6) (ce_var C 4)) (ce_add C (ce_str) (ce_ix C (ce_var C 3) (ce_var C 5))) (ce_var C 6))))))))) (cs_one (cs_ret (ce_tuple C (ce_sorted C (ce_var C 2))))))))
theorem d51 (C : Cxt (Sg K) Bt φ lv (cxD w K mg base n__law_frames "_law_frames" 87 cdv A outer s H E) (defScope (top 87)) n__law_frames E) : PSs (cxD w K mg base n__law_frames "_law_frames" 87 cdv A outer s H E) (defBody (top 87)) (tS (Sg K) E (b__law_frames (φ 48) (φ 47) (φ 50) (φ 52))) :=
  cs_cons (cs_par2 C 2 3 (ca_cons (ce_tup (ca_nil)) (ca_cons (ce_call (ps := ["well", "some"]) C 48 (ca_cons (ce_var C 0) (ca_cons (ce_tup (ca_cons (ce_int) (ca_cons (ce_int) (ca_cons (ce_int) (ca_nil))))) (ca_nil)))) (ca_nil)))) (cs_cons (cs_for C (passes_of rfl) (ci_seq C (ce_call (ps := ["well", "many"]) C 50 (ca_cons (ce_var C 0) (ca_cons (ce_add C (ce_int) (ce_call (ps := ["well", "limit"]) C 47 (ca_cons (ce_var C 0) (ca_cons (ce_var C 1) (ca_nil))))) (ca_nil))))) (cg_name C 4) (cs_one (cs_for C (passes_of rfl) (ci_range1 C (ce_int)) (cg_name C 5) (cs_cons (cs_par3 C 6 7 8 (ca_cons (ce_call (ps := ["well", "limit"]) C 47 (ca_cons (ce_var C 0) (ca_cons (ce_var C 3) (ca_nil)))) (ca_cons (ce_call (ps := ["well", "limit"]) C 47 (ca_cons (ce_var C 0) (ca_cons (ce_var C 3) (ca_nil)))) (ca_cons (ce_add C (ce_int) (ce_call (ps := ["well", "limit"]) C 47 (ca_cons (ce_var C 0) (ca_cons (ce_int) (ca_nil))))) (ca_nil))))) (cs_cons (cs_asg (ce_add C (ce_tup (ca_cons (ce_var C 4) (ca_cons (ce_var C 6) (ca_cons (ce_var C 7) (ca_nil))))) (ce_call (ps := ["well", "some"]) C 48 (ca_cons (ce_var C 0) (ca_cons (ce_tup (ca_cons (ce_tup (ca_cons (ce_add C (ce_var C 6) (ce_var C 8)) (ca_cons (ce_var C 7) (ca_nil)))) (ca_cons (ce_tup (ca_cons (ce_var C 6) (ca_cons (ce_add C (ce_var C 7) (ce_var C 8)) (ca_nil)))) (ca_nil)))) (ca_nil))))) (cg_cell C (fun _ => rfl) 9)) (cs_one (cs_if (ct_eq C (ce_lcF C finL [("each", 10)] (ci_seq C (ce_var C 2)) (fun _ _ _ _ _ => cw_name C.blk _ 10) (fun _ _ _ _ _ => cts_one (ct_val (ce_call (ps := ["one", "two"]) C.blk 52 (ca_cons (ce_var C.blk 10) (ca_cons (ce_var C.blk 9) (ca_nil)))))) (fun _ _ _ _ _ => ce_var C.blk 10)) (ce_lst (ca_nil))) (cs_cons (cs_asg (ce_add C (ce_var C 2) (ce_tup (ca_cons (ce_var C 9) (ca_nil)))) (cg_name C 2)) (cs_one (cs_brk))) (cs_nil)))))))) (cs_one (cs_ret (ce_var C 2))))
theorem d52 (C : Cxt (Sg K) Bt φ lv (cxD w K mg base n__law_touch "_law_touch" 88 cdv A outer s H E) (defScope (top 88)) n__law_touch E) : PSs (cxD w K mg base n__law_touch "_law_touch" 88 cdv A outer s H E) (defBody (top 88)) (tS (Sg K) E (b__law_touch)) :=
  cs_cons (cs_for C (passes_of rfl) (ci_seq C (ce_tup (ca_cons (ce_tup (ca_cons (ce_ix C (ce_var C 0) (ce_int)) (ca_cons (ce_ix C (ce_var C 0) (ce_int)) (ca_cons (ce_ix C (ce_var C 1) (ce_int)) (ca_cons (ce_ix C (ce_var C 1) (ce_int)) (ca_nil)))))) (ca_cons (ce_tup (ca_cons (ce_ix C (ce_var C 0) (ce_int)) (ca_cons (ce_ix C (ce_var C 0) (ce_int)) (ca_cons (ce_ix C (ce_var C 1) (ce_int)) (ca_cons (ce_ix C (ce_var C 1) (ce_int)) (ca_nil)))))) (ca_nil))))) (cg_tup C (cgs_cons (cg_name C 2) (cgs_cons (cg_name C 3) (cgs_cons (cg_name C 4) (cgs_cons (cg_name C 5) (cgs_nil)))))) (cs_one (cs_if (ct_gt (ce_max C (ce_var C 2) (ce_var C 4)) (ce_min C (ce_var C 3) (ce_var C 5))) (cs_one (cs_ret (ce_bl))) (cs_nil)))) (cs_one (cs_ret (ce_bl)))
theorem d53 (C : Cxt (Sg K) Bt φ lv (cxD w K mg base n__law_hung "_law_hung" 89 cdv A outer s H E) (defScope (top 89)) n__law_hung E) : PSs (cxD w K mg base n__law_hung "_law_hung" 89 cdv A outer s H E) (defBody (top 89)) (tS (Sg K) E (b__law_hung)) :=
  cs_cons (cs_asg (ce_var C 0) (cg_tup C (cgs_cons (cg_name C 2) (cgs_cons (cg_name C 3) (cgs_cons (cg_name C 4) (cgs_cons (cg_name C 5) (cgs_cons (cg_name C 6) (cgs_nil)))))))) (cs_cons (cs_asg (ce_var C 1) (cg_tup C (cgs_cons (cg_name C 7) (cgs_cons (cg_name C 8) (cgs_nil))))) (cs_cons (cs_par2 C 9 10 (ca_cons (ce_sub (ce_add C (ce_sub (ce_var C 5) (ce_var C 3)) (ce_var C 6)) (ce_var C 4)) (ca_cons (ce_ifExp (ct_eq C (ce_var C 4) (ce_var C 6)) (ce_tup (ca_cons (ce_int) (ca_cons (ce_int) (ca_nil)))) (ce_tup (ca_cons (ce_int) (ca_cons (ce_int) (ca_nil))))) (ca_nil)))) (cs_cons (cs_asg (ce_ifExp (ct_eq C (ce_var C 8) (ce_str)) (ce_tup (ca_cons (ce_sub (ce_int) (ce_ix C (ce_var C 10) (ce_int))) (ca_cons (ce_ix C (ce_var C 10) (ce_int)) (ca_nil)))) (ce_tup (ca_cons (ce_ix C (ce_var C 10) (ce_int)) (ca_cons (ce_sub (ce_int) (ce_ix C (ce_var C 10) (ce_int))) (ca_nil))))) (cg_name C 11)) (cs_cons (cs_if (ct_eq C (ce_var C 7) (ce_str)) (cs_one (cs_ret (ce_tup (ca_cons (ce_var C 2) (ca_cons (ce_var C 3) (ca_cons (ce_var C 4) (ca_cons (ce_sub (ce_var C 9) (ce_int)) (ca_cons (ce_var C 10) (ca_cons (ce_var C 8) (ca_cons (ce_var C 11) (ca_nil))))))))))) (cs_nil)) (cs_one (cs_ret (ce_tup (ca_cons (ce_var C 2) (ca_cons (ce_var C 5) (ca_cons (ce_var C 6) (ca_cons (ce_sub (ce_var C 9) (ce_int)) (ca_cons (ce_tup (ca_cons (ce_sub (ce_int) (ce_ix C (ce_var C 10) (ce_int))) (ca_cons (ce_sub (ce_int) (ce_ix C (ce_var C 10) (ce_int))) (ca_nil)))) (ca_cons (ce_ifExp (ct_eq C (ce_var C 8) (ce_str)) (ce_str) (ce_str)) (ca_cons (ce_var C 11) (ca_nil)))))))))))))))
theorem d54 (C : Cxt (Sg K) Bt φ lv (cxD w K mg base n__law_hangings "_law_hangings" 90 cdv A outer s H E) (defScope (top 90)) n__law_hangings E) : PSs (cxD w K mg base n__law_hangings "_law_hangings" 90 cdv A outer s H E) (defBody (top 90)) (tS (Sg K) E (b__law_hangings)) :=
  cs_one (cs_ret (ce_lst (ca_cons (ce_tup (ca_cons (ce_str) (ca_cons (ce_str) (ca_nil)))) (ca_cons (ce_tup (ca_cons (ce_str) (ca_cons (ce_str) (ca_nil)))) (ca_cons (ce_tup (ca_cons (ce_str) (ca_cons (ce_str) (ca_nil)))) (ca_cons (ce_tup (ca_cons (ce_str) (ca_cons (ce_str) (ca_nil)))) (ca_nil)))))))
theorem d55 (C : Cxt (Sg K) Bt φ lv (cxD w K mg base n__law_choices "_law_choices" 91 cdv A outer s H E) (defScope (top 91)) n__law_choices E) : PSs (cxD w K mg base n__law_choices "_law_choices" 91 cdv A outer s H E) (defBody (top 91)) (tS (Sg K) E (b__law_choices (φ 54) (φ 48))) :=
  cs_one (cs_ret (ce_tuple C (ce_lcF C finL [("frame", 2)] (ci_seq C (ce_var C 1)) (fun _ _ _ _ _ => cw_name C.blk _ 2) (fun _ _ _ _ _ => cts_nil) (fun _ _ _ _ _ => ce_call (ps := ["well", "some"]) C.blk 48 (ca_cons (ce_var C.blk 0) (ca_cons (ce_call0 C.blk 54) (ca_nil)))))))
theorem d56 (C : Cxt (Sg K) Bt φ lv (cxD w K mg base n__law_near "_law_near" 92 cdv A outer s H E) (defScope (top 92)) n__law_near E) : PSs (cxD w K mg base n__law_near "_law_near" 92 cdv A outer s H E) (defBody (top 92)) (tS (Sg K) E (b__law_near (φ 48))) :=
  cs_cons (cs_asg (ce_var C 1) (cg_tup C (cgs_cons (cg_name C 2) (cgs_cons (cg_name C 3) (cgs_cons (cg_name C 4) (cgs_cons (cg_name C 5) (cgs_cons (cg_name C 6) (cgs_nil)))))))) (cs_cons (cs_asg (ce_lst (ca_cons (ce_tup (ca_cons (ce_var C 1) (ca_cons (ce_bl) (ca_nil)))) (ca_cons (ce_tup (ca_cons (ce_list C (ce_var C 1)) (ca_cons (ce_bl) (ca_nil)))) (ca_cons (ce_tup (ca_cons (ce_slice C (ce_var C 1) (cpo_some (ce_int)) (cpo_none)) (ca_cons (ce_bl) (ca_nil)))) (ca_cons (ce_tup (ca_cons (ce_add C (ce_tup (ca_cons (ce_str) (ca_nil))) (ce_slice C (ce_var C 1) (cpo_some (ce_int)) (cpo_none))) (ca_cons (ce_bl) (ca_nil)))) (ca_cons (ce_tup (ca_cons (ce_non) (ca_cons (ce_bl) (ca_nil)))) (ca_nil))))))) (cg_name C 7)) (cs_cons (cs_asg (ce_add C (ce_var C 7) (ce_lst (ca_cons (ce_tup (ca_cons (ce_int) (ca_cons (ce_bl) (ca_nil)))) (ca_nil)))) (cg_name C 7)) (cs_cons (cs_asg (ce_add C (ce_var C 7) (ce_lst (ca_cons (ce_tup (ca_cons (ce_tup (ca_cons (ce_var C 2) (ca_cons (ce_var C 5) (ca_cons (ce_var C 6) (ca_cons (ce_var C 3) (ca_cons (ce_var C 4) (ca_nil))))))) (ca_cons (ce_bl) (ca_nil)))) (ca_cons (ce_tup (ca_cons (ce_tup (ca_cons (ce_var C 2) (ca_cons (ce_var C 3) (ca_cons (ce_var C 4) (ca_cons (ce_add C (ce_var C 3) (ce_int)) (ca_cons (ce_var C 4) (ca_nil))))))) (ca_cons (ce_bl) (ca_nil)))) (ca_cons (ce_tup (ca_cons (ce_tup (ca_cons (ce_var C 2) (ca_cons (ce_var C 3) (ca_cons (ce_var C 4) (ca_cons (ce_var C 3) (ca_cons (ce_var C 4) (ca_nil))))))) (ca_cons (ce_bl) (ca_nil)))) (ca_nil)))))) (cg_name C 7)) (cs_cons (cs_asg (ce_add C (ce_var C 7) (ce_lst (ca_cons (ce_tup (ca_cons (ce_tup (ca_cons (ce_var C 2) (ca_cons (ce_var C 3) (ca_cons (ce_var C 4) (ca_cons (ce_add C (ce_var C 3) (ce_int)) (ca_cons (ce_var C 4) (ca_nil))))))) (ca_cons (ce_bl) (ca_nil)))) (ca_cons (ce_tup (ca_cons (ce_tup (ca_cons (ce_var C 2) (ca_cons (ce_var C 3) (ca_cons (ce_var C 4) (ca_cons (ce_add C (ce_var C 3) (ce_int)) (ca_cons (ce_var C 4) (ca_nil))))))) (ca_cons (ce_bl) (ca_nil)))) (ca_nil))))) (cg_name C 7)) (cs_cons (cs_asg (ce_add C (ce_var C 7) (ce_lst (ca_cons (ce_tup (ca_cons (ce_tup (ca_cons (ce_var C 2) (ca_cons (ce_var C 3) (ca_cons (ce_var C 4) (ca_cons (ce_add C (ce_var C 3) (ce_int)) (ca_cons (ce_add C (ce_var C 4) (ce_int)) (ca_nil))))))) (ca_cons (ce_bl) (ca_nil)))) (ca_nil)))) (cg_name C 7)) (cs_cons (cs_asg (ce_add C (ce_var C 7) (ce_lst (ca_cons (ce_tup (ca_cons (ce_add C (ce_tup (ca_cons (ce_str) (ca_nil))) (ce_slice C (ce_var C 1) (cpo_some (ce_int)) (cpo_none))) (ca_cons (ce_bl) (ca_nil)))) (ca_cons (ce_tup (ca_cons (ce_tup (ca_cons (ce_var C 2) (ca_cons (ce_sub (ce_int) (ce_int)) (ca_cons (ce_var C 4) (ca_cons (ce_int) (ca_cons (ce_var C 4) (ca_nil))))))) (ca_cons (ce_bl) (ca_nil)))) (ca_cons (ce_tup (ca_cons (ce_tup (ca_cons (ce_var C 2) (ca_cons (ce_var C 3) (ca_cons (ce_int) (ca_cons (ce_var C 3) (ca_cons (ce_int) (ca_nil))))))) (ca_cons (ce_bl) (ca_nil)))) (ca_nil)))))) (cg_name C 7)) (cs_cons (cs_asg (ce_add C (ce_var C 7) (ce_lst (ca_cons (ce_tup (ca_cons (ce_tup (ca_cons (ce_var C 2) (ca_cons (ce_var C 3) (ca_cons (ce_var C 4) (ca_cons (ce_var C 3) (ca_cons (ce_add C (ce_var C 4) (ce_int)) (ca_nil))))))) (ca_cons (ce_bl) (ca_nil)))) (ca_cons (ce_tup (ca_cons (ce_tup (ca_cons (ce_var C 2) (ca_cons (ce_bl) (ca_cons (ce_var C 4) (ca_cons (ce_int) (ca_cons (ce_var C 4) (ca_nil))))))) (ca_cons (ce_bl) (ca_nil)))) (ca_cons (ce_tup (ca_cons (ce_add C (ce_tup (ca_cons (ce_str) (ca_nil))) (ce_slice C (ce_var C 1) (cpo_some (ce_int)) (cpo_none))) (ca_cons (ce_bl) (ca_nil)))) (ca_nil)))))) (cg_name C 7)) (cs_one (cs_ret (ce_call (ps := ["well", "some"]) C 48 (ca_cons (ce_var C 0) (ca_cons (ce_var C 7) (ca_nil)))))))))))))
theorem d57 (C : Cxt (Sg K) Bt φ lv (cxD w K mg base n__law_right "_law_right" 93 cdv A outer s H E) (defScope (top 93)) n__law_right E) : PSs (cxD w K mg base n__law_right "_law_right" 93 cdv A outer s H E) (defBody (top 93)) (tS (Sg K) E (b__law_right (φ 51) (φ 55) (φ 53) (φ 41) (φ 45) (φ 49) (φ 56) (φ 40) (φ 42) (φ 44) (φ 43))) :=
  cs_cons (cs_asg (ce_call (ps := ["well", "most"]) C 51 (ca_cons (ce_var C 0) (ca_cons (ce_int) (ca_nil)))) (cg_cell C (fun _ => rfl) 1)) (cs_cons (cs_asg (ce_call (ps := ["well", "frames"]) C 55 (ca_cons (ce_var C 0) (ca_cons (ce_var C 1) (ca_nil)))) (cg_cell C (fun _ => rfl) 2)) (cs_cons (cs_asg (ce_tuple C (ce_lcF C finL [("k", 4)] (ci_range1 C (ce_len C (ce_var C 1))) (fun _ _ _ _ _ => cw_name C.blk _ 4) (fun _ _ _ _ _ => cts_nil) (fun _ _ _ _ _ => ce_call (ps := ["frame", "hanging"]) C.blk 53 (ca_cons (ce_ix C.blk (ce_var C.blk 1) (ce_var C.blk 4)) (ca_cons (ce_ix C.blk (ce_var C.blk 2) (ce_var C.blk 4)) (ca_nil)))))) (cg_name C 3)) (cs_cons (cs_for C (passes_of rfl) (ci_range1 C (ce_len C (ce_var C 1))) (cg_name C 4) (cs_cons (cs_asg (ce_ix C (ce_var C 2) (ce_var C 4)) (cg_tup C (cgs_cons (cg_name C 5) (cgs_cons (cg_name C 6) (cgs_nil))))) (cs_cons (cs_asg (ce_tup (ca_cons (ce_call (ps := ["frame", "post", "side"]) C 41 (ca_cons (ce_ix C (ce_var C 1) (ce_var C 4)) (ca_cons (ce_var C 5) (ca_cons (ce_var C 6) (ca_nil))))) (ca_cons (ce_callK (ps := ["frame", "post", "side"]) (ks := ["side"]) C 41 [0, 1, 2] 2 (ca_cons (ce_ix C (ce_var C 1) (ce_var C 4)) (ca_cons (ce_var C 5) (ca_nil))) (ck_cons (ce_var C 6) (ck_nil)) (fun _ us ws h1 h2 => match us, ws, h1, h2 with | [_, _], [_], _, _ => rfl) (fun us ws h1 h2 => match us, ws, h1, h2 with | [_, _], [_], _, _ => rfl)) (ca_nil)))) (cg_name C 7)) (cs_cons (cs_if ((cw_or (ct_not (ct_val (ce_call (ps := ["one", "two"]) C 49 (ca_cons (ce_var C 7) (ca_cons (ce_tup (ca_cons (ce_ix C (ce_var C 3) (ce_var C 4)) (ca_cons (ce_ix C (ce_var C 3) (ce_var C 4)) (ca_nil)))) (ca_nil)))))) (cw_or1 (ct_notb (ce_callK0 (ps := ["value"]) (ks := ["value"]) C 45 [0] (ck_cons (ce_ix C (ce_var C 7) (ce_int)) (ck_nil)) (fun _ us ws h1 h2 => match us, ws, h1, h2 with | [], [_], _, _ => rfl) (fun us ws h1 h2 => match us, ws, h1, h2 with | [], [_], _, _ => rfl)) (ce_bl)))).pt) (cs_one (cs_ret (ce_bl))) (cs_nil)) (cs_cons (cs_asg (ce_call (ps := ["well", "frame"]) C 56 (ca_cons (ce_var C 0) (ca_cons (ce_ix C (ce_var C 1) (ce_var C 4)) (ca_nil)))) (cg_tup C (cgs_cons (cg_name C 8) (cgs_cons (cg_name C 9) (cgs_nil))))) (cs_one (cs_if (ct_ne C (ce_repr C (ce_lst (ca_cons (ce_call (ps := ["value"]) C 40 (ca_cons (ce_var C 8) (ca_nil))) (ca_cons (ce_callK0 (ps := ["value"]) (ks := ["value"]) C 40 [0] (ck_cons (ce_var C 8) (ck_nil)) (fun _ us ws h1 h2 => match us, ws, h1, h2 with | [], [_], _, _ => rfl) (fun us ws h1 h2 => match us, ws, h1, h2 with | [], [_], _, _ => rfl)) (ca_nil))))) (ce_repr C (ce_lst (ca_cons (ce_var C 9) (ca_cons (ce_var C 9) (ca_nil)))))) (cs_one (cs_ret (ce_bl))) (cs_nil)))))))) (cs_cons (cs_asg (ce_callK (ps := ["frames", "hangings"]) (ks := ["hangings"]) C 42 [0, 1] 1 (ca_cons (ce_var C 1) (ca_nil)) (ck_cons (ce_var C 2) (ck_nil)) (fun _ us ws h1 h2 => match us, ws, h1, h2 with | [_], [_], _, _ => rfl) (fun us ws h1 h2 => match us, ws, h1, h2 with | [_], [_], _, _ => rfl)) (cg_name C 10)) (cs_cons (cs_if (ct_not (ct_val (ce_call (ps := ["one", "two"]) C 49 (ca_cons (ce_tup (ca_cons (ce_call (ps := ["frames", "hangings"]) C 42 (ca_cons (ce_var C 1) (ca_cons (ce_var C 2) (ca_nil)))) (ca_cons (ce_var C 10) (ca_nil)))) (ca_cons (ce_tup (ca_cons (ce_tup (ca_cons (ce_var C 3) (ca_cons (ce_tup (ca_nil)) (ca_nil)))) (ca_cons (ce_tup (ca_cons (ce_var C 3) (ca_cons (ce_tup (ca_nil)) (ca_nil)))) (ca_nil)))) (ca_nil)))))) (cs_one (cs_ret (ce_bl))) (cs_nil)) (cs_one (cs_ret (ce_and (ce_isb (ce_callK0 (ps := ["value"]) (ks := ["value"]) C 43 [0] (ck_cons (ce_var C 10) (ck_nil)) (fun _ us ws h1 h2 => match us, ws, h1, h2 with | [], [_], _, _ => rfl) (fun us ws h1 h2 => match us, ws, h1, h2 with | [], [_], _, _ => rfl)) (ce_bl)) (ce_one (ce_call (ps := ["one", "two"]) C 49 (ca_cons (ce_callK0 (ps := ["house"]) (ks := ["house"]) C 44 [0] (ck_cons (ce_var C 10) (ck_nil)) (fun _ us ws h1 h2 => match us, ws, h1, h2 with | [], [_], _, _ => rfl) (fun us ws h1 h2 => match us, ws, h1, h2 with | [], [_], _, _ => rfl)) (ca_cons (ce_tuple C (ce_lcF C finL [("frame", 11)] (ci_seq C (ce_var C 1)) (fun _ _ _ _ _ => cw_name C.blk _ 11) (fun _ _ _ _ _ => cts_nil) (fun _ _ _ _ _ => ce_ix C.blk (ce_var C.blk 11) (ce_int)))) (ca_nil)))))))))))))
theorem d58 (C : Cxt (Sg K) Bt φ lv (cxD w K mg base n_law "law" 94 cdv A outer s H E) (defScope (top 94)) n_law E) : PSs (cxD w K mg base n_law "law" 94 cdv A outer s H E) (defBody (top 94)) (tS (Sg K) E (b_law (φ 46) (φ 57))) :=
  cs_cons (cs_asg (ce_lcF C finL [("lap", 2)] (ci_range1 C (ce_int)) (fun _ _ _ _ _ => cw_name C.blk _ 2) (fun _ _ _ _ _ => cts_nil) (fun _ _ _ _ _ => ce_call (ps := ["script", "lap"]) C.blk 46 (ca_cons (ce_var C.blk 0) (ca_cons (ce_var C.blk 2) (ca_nil))))) (cg_cell C (fun _ => rfl) 1)) (cs_one (cs_ret (ce_all C (ce_lcF C finL [("k", 3)] (ci_range1 C (ce_int)) (fun _ _ _ _ _ => cw_name C.blk _ 3) (fun _ _ _ _ _ => cts_nil) (fun _ _ _ _ _ => ce_call (ps := ["well"]) C.blk 57 (ca_cons (ce_ix C.blk (ce_var C.blk 1) (ce_mod (ce_intc C.blk (ce_var C.blk 3)) (ce_int))) (ca_nil)))))))
end K59
set_option Elab.async false
set_option linter.all false
set_option maxRecDepth 100000
set_option maxHeartbeats 4000000
namespace K59
open PySem PySem.Spec PyProof.Rows L2 G
theorem ex_0 {K : PySem.W.Frag} (h : ex K = true) : (He.tupB K "WORDS" [.str "again", .str "at", .str "beat", .str "calm", .str "door", .str "ends", .str "first", .str "from", .str "go", .str "house", .str "in", .str "left", .str "long", .str "never", .str "none", .str "open", .str "post", .str "right", .str "second", .str "shut", .str "stand", .str "sweep", .str "to", .str "turns", .str "wall", .str "way", .str "wedge"]) = true := List.all_eq_true.mp h _ (List.mem_of_getElem? (i := 0) rfl)
theorem ex_1 {K : PySem.W.Frag} (h : ex K = true) : (He.tupB K "TURNS" [.str "left", .str "right"]) = true := List.all_eq_true.mp h _ (List.mem_of_getElem? (i := 1) rfl)
theorem ex_2 {K : PySem.W.Frag} (h : ex K = true) : (He.tupB K "POSTS" [.str "first", .str "second"]) = true := List.all_eq_true.mp h _ (List.mem_of_getElem? (i := 2) rfl)
theorem ex_3 {K : PySem.W.Frag} (h : ex K = true) : (He.eqO (PySem.W.nsIn K mainGlobals "gcd") (some (some (.builtin "math.gcd")))) = true := List.all_eq_true.mp h _ (List.mem_of_getElem? (i := 3) rfl)
def tbF0 (φ : Fns) : List (List D → Cells → Option Out) := [arK 1 (runB finF n_is_whole (b_is_whole)), arK 3 (runB finF n_is_number (b_is_number (φ 0))), arK 2 (runB finF n_is_tuple_of (b_is_tuple_of)), arK 3 (runB finF n_wrong_at (b_wrong_at φ)), arK 3 (runB finF n_wrong_from_one (b_wrong_from_one (φ 3))), arK 3 (runB finF n_wrong_for_all (b_wrong_for_all (φ 3))), arK 2 (runB finF n_is_above_last (b_is_above_last)), arK 1 (runB finF n_is_word (b_is_word)), arK 1 (runB finF n_is_name (b_is_name (φ 7))), arK 2 (runB finF n_is_one_of (b_is_one_of)), arK 1 (runB finF n_is_heading_form (b_is_heading_form (φ 1) (φ 2))), arK 1 (runB finF n_quarter_left (b_quarter_left)), arK 1 (runB finF n_opposite (b_opposite)), arK 1 (runB finF n_other_turn (b_other_turn)), arK 1 (runB finF n_is_place_number (b_is_place_number (φ 1))), arK 1 (runB finF n_is_leaf_form (b_is_leaf_form (φ 14) (φ 8) (φ 2) (φ 9) (φ 1) (φ 10))), arK 1 (runB finF n_name_in (b_name_in)), arK 1 (runB finF n_hinge_of (b_hinge_of)), arK 1 (runB finF n_is_wall_form (b_is_wall_form (φ 14) (φ 2))), arK 2 (runB finF n_is_next_leaf (b_is_next_leaf (φ 15) (φ 17))), arK 1 (runB finF n_wrong_walls (b_wrong_walls (φ 3) 59)), arK 1 (runB finF n_is_house_form (b_is_house_form (φ 4) (φ 2) (φ 20) 19)), arK 1 (runB finF n_leaf_names (b_leaf_names (φ 16))), arK 1 (runB finF n_check_turn (b_check_turn (φ 9))), arK 1 (runB finF n_check_house (b_check_house (φ 21)))]
def tbF1 (φ : Fns) : List (List D → Cells → Option Out) := [arK 1 (runB finF n_wide_of (b_wide_of)), arK 1 (runB finF n_is_frame_form (b_is_frame_form (φ 14) (φ 8) (φ 2) (φ 25))), arK 2 (runB finF n_do_frames_touch (b_do_frames_touch)), arK 2 (runB finF n_is_next_frame (b_is_next_frame (φ 26) (φ 27))), arK 1 (runB finF n_wrong_frames (b_wrong_frames (φ 4) 28)), arK 1 (runB finF n_is_hanging (b_is_hanging (φ 9) (φ 2))), arK 2 (runB finF n_wrong_hangings (b_wrong_hangings (φ 5) 60)), arK 1 (runB finF n_heading_along (b_heading_along)), arK 3 (runB finF n_hung_leaf (b_hung_leaf (φ 25) (φ 32) (φ 11) (φ 12) (φ 13))), arK 2 (runB finF n_hung_by (b_hung_by (φ 33))), arK 2 (runB finF n_all_hung (b_all_hung (φ 34))), arK 1 (runB finF n_check_frame (b_check_frame (φ 26))), arK 1 (runB finF n_check_post (b_check_post (φ 9))), arK 1 (runB finF n_check_frames (b_check_frames (φ 29))), arK 2 (runB finF n_check_hangings (b_check_hangings (φ 38) (φ 31))), arK 1 (runB finF n_is_frame (b_is_frame (φ 26))), arK 3 (runB finF n_hanging_leaf (b_hanging_leaf (φ 36) (φ 37) (φ 23) (φ 33))), arK 2 (runB finF n_frames_house (b_frames_house (φ 39) (φ 35))), arK 1 (runB finF n_is_house (b_is_house (φ 21))), arK 1 (runB finF n_names_of (b_names_of (φ 24) (φ 22))), arK 1 (runB finF n_is_leaf (b_is_leaf (φ 15))), arK 2 (runB finC n__law_well (b__law_well)), arK 2 (runB finF n__law_draw (b__law_draw)), arK 2 (runB finF n__law_of (b__law_of (φ 47))), arK 2 (runB finF n__law_same (b__law_same (φ 49)))]
def tbF2 (φ : Fns) : List (List D → Cells → Option Out) := [arK 2 (runB finF n__law_names (b__law_names (φ 48))), arK 2 (runB finF n__law_frames (b__law_frames (φ 48) (φ 47) (φ 50) (φ 52))), arK 2 (runB finF n__law_touch (b__law_touch)), arK 2 (runB finF n__law_hung (b__law_hung)), arK 0 (runB finF n__law_hangings (b__law_hangings)), arK 2 (runB finF n__law_choices (b__law_choices (φ 54) (φ 48))), arK 2 (runB finF n__law_near (b__law_near (φ 48))), arK 1 (runB finF n__law_right (b__law_right (φ 51) (φ 55) (φ 53) (φ 41) (φ 45) (φ 49) (φ 56) (φ 40) (φ 42) (φ 44) (φ 43))), arK 1 (runB finF n_law (b_law (φ 46) (φ 57))), runL finF n_wrong_walls_lam0 2 (e_wrong_walls_lam0 (φ 6) (φ 18)), runL finF n_wrong_hangings_lam0 2 (e_wrong_hangings_lam0 (φ 30))]
def tbF (φ : Fns) : List (List D → Cells → Option Out) := tbF0 φ ++ (tbF1 φ ++ (tbF2 φ))
def stepF (φ : Fns) : Fns := fun i => (tbF φ).getD i (fun _ _ => none)
def callF : Nat → Fns
  | 0 => fun _ _ _ => none
  | n + 1 => stepF (callF n)
section
variable {φ : Fns} {lv : Nat} {w : World} {K : PySem.W.Frag} {mg : Str → Option Value} {base h0 : Heap}
/-- what the head tells -/
structure Told (w : World) (K : PySem.W.Frag) (mg : Str → Option Value) (base h0 : Heap) : Prop where
  c : He.SaysX fa fnD [] tf ex w h0 K
  X : K.In base
  G : base.Ns mainGlobals mg
  T : ∀ p ∈ tbl K, LamX.TabB base mg p.1 p.2
theorem Told.blt (t : Told w K mg base h0) : Blt mg := ⟨He.free_ok t.X t.G (t.c.t.d.fact 59 (f := .free "isinstance") rfl), He.free_ok t.X t.G (t.c.t.d.fact 60 (f := .free "int") rfl), He.free_ok t.X t.G (t.c.t.d.fact 61 (f := .free "bool") rfl), He.free_ok t.X t.G (t.c.t.d.fact 62 (f := .free "str") rfl), He.free_ok t.X t.G (t.c.t.d.fact 63 (f := .free "tuple") rfl), He.free_ok t.X t.G (t.c.t.d.fact 64 (f := .free "list") rfl), He.free_ok t.X t.G (t.c.t.d.fact 65 (f := .free "len") rfl), He.free_ok t.X t.G (t.c.t.d.fact 66 (f := .free "all") rfl), He.free_ok t.X t.G (t.c.t.d.fact 67 (f := .free "any") rfl), He.free_ok t.X t.G (t.c.t.d.fact 68 (f := .free "range") rfl), He.free_ok t.X t.G (t.c.t.d.fact 69 (f := .free "zip") rfl), He.free_ok t.X t.G (t.c.t.d.fact 70 (f := .free "enumerate") rfl), He.free_ok t.X t.G (t.c.t.d.fact 71 (f := .free "max") rfl), He.free_ok t.X t.G (t.c.t.d.fact 72 (f := .free "min") rfl), He.free_ok t.X t.G (t.c.t.d.fact 73 (f := .free "abs") rfl), He.free_ok t.X t.G (t.c.t.d.fact 74 (f := .free "divmod") rfl), He.free_ok t.X t.G (t.c.t.d.fact 75 (f := .free "sorted") rfl), He.free_ok t.X t.G (t.c.t.d.fact 76 (f := .free "repr") rfl), He.free_ok t.X t.G (t.c.t.d.fact 77 (f := .free "set") rfl), He.free_ok t.X t.G (t.c.t.d.fact 78 (f := .free "sum") rfl)⟩
theorem lamAt (t : Told w K mg base h0) {x : Str} {i : Nat} {N : List Str} {cdv : Value} {A : Around} {outer : List Env} {s : Shared} {H : Hp} {E : XK} (hx : (x, none) ∈ tf) (hc : cdv = .ref (He.codeOf K (x, none))) : LamAt (Sg K) (cxD w K mg base N x i cdv A outer s H E) (He.cT K (x, none)).1 (He.cT K (x, none)).2 nm where
  tb := t.T _ (List.mem_map.mpr ⟨_, hx, rfl⟩)
  code := hc
  mem := List.mem_map.mpr ⟨He.cT K (x, none), List.mem_map.mpr ⟨_, hx, rfl⟩, rfl⟩
  all := fun p hp => by
    obtain ⟨q, _, rfl⟩ := List.mem_map.mp hp
    rfl
theorem sc0 : FnScope n_is_whole ["value"] (defScope (top 13)) := ⟨rfl, rfl, rfl, by decide +kernel, rfl, by decide +kernel, by decide +kernel⟩
theorem fz0 (t : Told w K mg base h0) : FnG (Sg K) Pg w K mg base (fun _ _ => none) lv "is_whole" ["value"] :=
  let ⟨_, F⟩ := t.c.t.d.def_ 0 rfl; fnG_zero (at_ := ("is_whole", none)) rfl (He.glo_ok t.X t.G (t.c.t.d.fact 0 (f := .glo "is_whole") rfl)) rfl F (fun _ _ _ _ _ _ => ⟨rfl, rfl, rfl, rfl, rfl, rfl⟩) (fun _ _ _ _ _ _ us hl => match us, hl with | [_], _ => rfl)
theorem fg0 (t : Told w K mg base h0) (g : Gx (Sg K) Bt φ lv Pg w K mg base) : FnG (Sg K) Pg w K mg base (arK 1 (runB finF n_is_whole (b_is_whole))) (lv + 1) "is_whole" ["value"] :=
  let ⟨_, F⟩ := t.c.t.d.def_ 0 rfl; (fnG_of (at_ := ("is_whole", none)) finF_ok rfl (He.glo_ok t.X t.G (t.c.t.d.fact 0 (f := .glo "is_whole") rfl)) rfl F sc0 (fun _ _ _ _ _ _ => ⟨rfl, rfl, rfl, rfl, rfl, rfl⟩) (fun _ _ _ _ _ _ us hl => match us, hl with | [_], _ => rfl) g (b := fun φ => b_is_whole) fun cdv A outer s H E hc C => d0 C).ar
theorem sc1 : FnScope n_is_number ["value", "low", "high"] (defScope (top 14)) := ⟨rfl, rfl, rfl, by decide +kernel, rfl, by decide +kernel, by decide +kernel⟩
theorem fz1 (t : Told w K mg base h0) : FnG (Sg K) Pg w K mg base (fun _ _ => none) lv "is_number" ["value", "low", "high"] :=
  let ⟨_, F⟩ := t.c.t.d.def_ 1 rfl; fnG_zero (at_ := ("is_number", none)) rfl (He.glo_ok t.X t.G (t.c.t.d.fact 1 (f := .glo "is_number") rfl)) rfl F (fun _ _ _ _ _ _ => ⟨rfl, rfl, rfl, rfl, rfl, rfl⟩) (fun _ _ _ _ _ _ us hl => match us, hl with | [_, _, _], _ => rfl)
theorem fg1 (t : Told w K mg base h0) (g : Gx (Sg K) Bt φ lv Pg w K mg base) : FnG (Sg K) Pg w K mg base (arK 3 (runB finF n_is_number (b_is_number (φ 0)))) (lv + 1) "is_number" ["value", "low", "high"] :=
  let ⟨_, F⟩ := t.c.t.d.def_ 1 rfl; (fnG_of (at_ := ("is_number", none)) finF_ok rfl (He.glo_ok t.X t.G (t.c.t.d.fact 1 (f := .glo "is_number") rfl)) rfl F sc1 (fun _ _ _ _ _ _ => ⟨rfl, rfl, rfl, rfl, rfl, rfl⟩) (fun _ _ _ _ _ _ us hl => match us, hl with | [_, _, _], _ => rfl) g (b := fun φ => b_is_number (φ 0)) fun cdv A outer s H E hc C => d1 C).ar
theorem sc2 : FnScope n_is_tuple_of ["value", "many"] (defScope (top 15)) := ⟨rfl, rfl, rfl, by decide +kernel, rfl, by decide +kernel, by decide +kernel⟩
theorem fz2 (t : Told w K mg base h0) : FnG (Sg K) Pg w K mg base (fun _ _ => none) lv "is_tuple_of" ["value", "many"] :=
  let ⟨_, F⟩ := t.c.t.d.def_ 2 rfl; fnG_zero (at_ := ("is_tuple_of", none)) rfl (He.glo_ok t.X t.G (t.c.t.d.fact 2 (f := .glo "is_tuple_of") rfl)) rfl F (fun _ _ _ _ _ _ => ⟨rfl, rfl, rfl, rfl, rfl, rfl⟩) (fun _ _ _ _ _ _ us hl => match us, hl with | [_, _], _ => rfl)
theorem fg2 (t : Told w K mg base h0) (g : Gx (Sg K) Bt φ lv Pg w K mg base) : FnG (Sg K) Pg w K mg base (arK 2 (runB finF n_is_tuple_of (b_is_tuple_of))) (lv + 1) "is_tuple_of" ["value", "many"] :=
  let ⟨_, F⟩ := t.c.t.d.def_ 2 rfl; (fnG_of (at_ := ("is_tuple_of", none)) finF_ok rfl (He.glo_ok t.X t.G (t.c.t.d.fact 2 (f := .glo "is_tuple_of") rfl)) rfl F sc2 (fun _ _ _ _ _ _ => ⟨rfl, rfl, rfl, rfl, rfl, rfl⟩) (fun _ _ _ _ _ _ us hl => match us, hl with | [_, _], _ => rfl) g (b := fun φ => b_is_tuple_of) fun cdv A outer s H E hc C => d2 C).ar
theorem sc3 : FnScope n_wrong_at ["value", "most", "is_right"] (defScope (top 16)) := ⟨rfl, rfl, rfl, by decide +kernel, rfl, by decide +kernel, by decide +kernel⟩
theorem fz3 (t : Told w K mg base h0) : FnG (Sg K) Pg w K mg base (fun _ _ => none) lv "wrong_at" ["value", "most", "is_right"] :=
  let ⟨_, F⟩ := t.c.t.d.def_ 3 rfl; fnG_zero (at_ := ("wrong_at", none)) rfl (He.glo_ok t.X t.G (t.c.t.d.fact 3 (f := .glo "wrong_at") rfl)) rfl F (fun _ _ _ _ _ _ => ⟨rfl, rfl, rfl, rfl, rfl, rfl⟩) (fun _ _ _ _ _ _ us hl => match us, hl with | [_, _, _], _ => rfl)
theorem fg3 (t : Told w K mg base h0) (g : Gx (Sg K) Bt φ lv Pg w K mg base) : FnG (Sg K) Pg w K mg base (arK 3 (runB finF n_wrong_at (b_wrong_at φ))) (lv + 1) "wrong_at" ["value", "most", "is_right"] :=
  let ⟨_, F⟩ := t.c.t.d.def_ 3 rfl; (fnG_of (at_ := ("wrong_at", none)) finF_ok rfl (He.glo_ok t.X t.G (t.c.t.d.fact 3 (f := .glo "wrong_at") rfl)) rfl F sc3 (fun _ _ _ _ _ _ => ⟨rfl, rfl, rfl, rfl, rfl, rfl⟩) (fun _ _ _ _ _ _ us hl => match us, hl with | [_, _, _], _ => rfl) g (b := fun φ => b_wrong_at φ) fun cdv A outer s H E hc C => d3 C).ar
theorem sc4 : FnScope n_wrong_from_one ["value", "most", "is_right"] (defScope (top 17)) := ⟨rfl, rfl, rfl, by decide +kernel, rfl, by decide +kernel, by decide +kernel⟩
theorem fz4 (t : Told w K mg base h0) : FnG (Sg K) Pg w K mg base (fun _ _ => none) lv "wrong_from_one" ["value", "most", "is_right"] :=
  let ⟨_, F⟩ := t.c.t.d.def_ 4 rfl; fnG_zero (at_ := ("wrong_from_one", none)) rfl (He.glo_ok t.X t.G (t.c.t.d.fact 4 (f := .glo "wrong_from_one") rfl)) rfl F (fun _ _ _ _ _ _ => ⟨rfl, rfl, rfl, rfl, rfl, rfl⟩) (fun _ _ _ _ _ _ us hl => match us, hl with | [_, _, _], _ => rfl)
theorem fg4 (t : Told w K mg base h0) (g : Gx (Sg K) Bt φ lv Pg w K mg base) : FnG (Sg K) Pg w K mg base (arK 3 (runB finF n_wrong_from_one (b_wrong_from_one (φ 3)))) (lv + 1) "wrong_from_one" ["value", "most", "is_right"] :=
  let ⟨_, F⟩ := t.c.t.d.def_ 4 rfl; (fnG_of (at_ := ("wrong_from_one", none)) finF_ok rfl (He.glo_ok t.X t.G (t.c.t.d.fact 4 (f := .glo "wrong_from_one") rfl)) rfl F sc4 (fun _ _ _ _ _ _ => ⟨rfl, rfl, rfl, rfl, rfl, rfl⟩) (fun _ _ _ _ _ _ us hl => match us, hl with | [_, _, _], _ => rfl) g (b := fun φ => b_wrong_from_one (φ 3)) fun cdv A outer s H E hc C => d4 C).ar
theorem sc5 : FnScope n_wrong_for_all ["value", "many", "is_right"] (defScope (top 18)) := ⟨rfl, rfl, rfl, by decide +kernel, rfl, by decide +kernel, by decide +kernel⟩
theorem fz5 (t : Told w K mg base h0) : FnG (Sg K) Pg w K mg base (fun _ _ => none) lv "wrong_for_all" ["value", "many", "is_right"] :=
  let ⟨_, F⟩ := t.c.t.d.def_ 5 rfl; fnG_zero (at_ := ("wrong_for_all", none)) rfl (He.glo_ok t.X t.G (t.c.t.d.fact 5 (f := .glo "wrong_for_all") rfl)) rfl F (fun _ _ _ _ _ _ => ⟨rfl, rfl, rfl, rfl, rfl, rfl⟩) (fun _ _ _ _ _ _ us hl => match us, hl with | [_, _, _], _ => rfl)
theorem fg5 (t : Told w K mg base h0) (g : Gx (Sg K) Bt φ lv Pg w K mg base) : FnG (Sg K) Pg w K mg base (arK 3 (runB finF n_wrong_for_all (b_wrong_for_all (φ 3)))) (lv + 1) "wrong_for_all" ["value", "many", "is_right"] :=
  let ⟨_, F⟩ := t.c.t.d.def_ 5 rfl; (fnG_of (at_ := ("wrong_for_all", none)) finF_ok rfl (He.glo_ok t.X t.G (t.c.t.d.fact 5 (f := .glo "wrong_for_all") rfl)) rfl F sc5 (fun _ _ _ _ _ _ => ⟨rfl, rfl, rfl, rfl, rfl, rfl⟩) (fun _ _ _ _ _ _ us hl => match us, hl with | [_, _, _], _ => rfl) g (b := fun φ => b_wrong_for_all (φ 3)) fun cdv A outer s H E hc C => d5 C).ar
theorem sc6 : FnScope n_is_above_last ["value", "before"] (defScope (top 19)) := ⟨rfl, rfl, rfl, by decide +kernel, rfl, by decide +kernel, by decide +kernel⟩
theorem fz6 (t : Told w K mg base h0) : FnG (Sg K) Pg w K mg base (fun _ _ => none) lv "is_above_last" ["value", "before"] :=
  let ⟨_, F⟩ := t.c.t.d.def_ 6 rfl; fnG_zero (at_ := ("is_above_last", none)) rfl (He.glo_ok t.X t.G (t.c.t.d.fact 6 (f := .glo "is_above_last") rfl)) rfl F (fun _ _ _ _ _ _ => ⟨rfl, rfl, rfl, rfl, rfl, rfl⟩) (fun _ _ _ _ _ _ us hl => match us, hl with | [_, _], _ => rfl)
theorem fg6 (t : Told w K mg base h0) (g : Gx (Sg K) Bt φ lv Pg w K mg base) : FnG (Sg K) Pg w K mg base (arK 2 (runB finF n_is_above_last (b_is_above_last))) (lv + 1) "is_above_last" ["value", "before"] :=
  let ⟨_, F⟩ := t.c.t.d.def_ 6 rfl; (fnG_of (at_ := ("is_above_last", none)) finF_ok rfl (He.glo_ok t.X t.G (t.c.t.d.fact 6 (f := .glo "is_above_last") rfl)) rfl F sc6 (fun _ _ _ _ _ _ => ⟨rfl, rfl, rfl, rfl, rfl, rfl⟩) (fun _ _ _ _ _ _ us hl => match us, hl with | [_, _], _ => rfl) g (b := fun φ => b_is_above_last) fun cdv A outer s H E hc C => d6 C).ar
theorem sc7 : FnScope n_is_word ["value"] (defScope (top 20)) := ⟨rfl, rfl, rfl, by decide +kernel, rfl, by decide +kernel, by decide +kernel⟩
theorem fz7 (t : Told w K mg base h0) : FnG (Sg K) Pg w K mg base (fun _ _ => none) lv "is_word" ["value"] :=
  let ⟨_, F⟩ := t.c.t.d.def_ 7 rfl; fnG_zero (at_ := ("is_word", none)) rfl (He.glo_ok t.X t.G (t.c.t.d.fact 7 (f := .glo "is_word") rfl)) rfl F (fun _ _ _ _ _ _ => ⟨rfl, rfl, rfl, rfl, rfl, rfl⟩) (fun _ _ _ _ _ _ us hl => match us, hl with | [_], _ => rfl)
theorem fg7 (t : Told w K mg base h0) (g : Gx (Sg K) Bt φ lv Pg w K mg base) : FnG (Sg K) Pg w K mg base (arK 1 (runB finF n_is_word (b_is_word))) (lv + 1) "is_word" ["value"] :=
  let ⟨_, F⟩ := t.c.t.d.def_ 7 rfl; (fnG_of (at_ := ("is_word", none)) finF_ok rfl (He.glo_ok t.X t.G (t.c.t.d.fact 7 (f := .glo "is_word") rfl)) rfl F sc7 (fun _ _ _ _ _ _ => ⟨rfl, rfl, rfl, rfl, rfl, rfl⟩) (fun _ _ _ _ _ _ us hl => match us, hl with | [_], _ => rfl) g (b := fun φ => b_is_word) fun cdv A outer s H E hc C => d7 C).ar
theorem sc8 : FnScope n_is_name ["value"] (defScope (top 21)) := ⟨rfl, rfl, rfl, by decide +kernel, rfl, by decide +kernel, by decide +kernel⟩
theorem fz8 (t : Told w K mg base h0) : FnG (Sg K) Pg w K mg base (fun _ _ => none) lv "is_name" ["value"] :=
  let ⟨_, F⟩ := t.c.t.d.def_ 8 rfl; fnG_zero (at_ := ("is_name", none)) rfl (He.glo_ok t.X t.G (t.c.t.d.fact 8 (f := .glo "is_name") rfl)) rfl F (fun _ _ _ _ _ _ => ⟨rfl, rfl, rfl, rfl, rfl, rfl⟩) (fun _ _ _ _ _ _ us hl => match us, hl with | [_], _ => rfl)
theorem fg8 (t : Told w K mg base h0) (g : Gx (Sg K) Bt φ lv Pg w K mg base) : FnG (Sg K) Pg w K mg base (arK 1 (runB finF n_is_name (b_is_name (φ 7)))) (lv + 1) "is_name" ["value"] :=
  let ⟨_, F⟩ := t.c.t.d.def_ 8 rfl; (fnG_of (at_ := ("is_name", none)) finF_ok rfl (He.glo_ok t.X t.G (t.c.t.d.fact 8 (f := .glo "is_name") rfl)) rfl F sc8 (fun _ _ _ _ _ _ => ⟨rfl, rfl, rfl, rfl, rfl, rfl⟩) (fun _ _ _ _ _ _ us hl => match us, hl with | [_], _ => rfl) g (b := fun φ => b_is_name (φ 7)) fun cdv A outer s H E hc C => d8 C).ar
theorem sc9 : FnScope n_is_one_of ["value", "words"] (defScope (top 22)) := ⟨rfl, rfl, rfl, by decide +kernel, rfl, by decide +kernel, by decide +kernel⟩
theorem fz9 (t : Told w K mg base h0) : FnG (Sg K) Pg w K mg base (fun _ _ => none) lv "is_one_of" ["value", "words"] :=
  let ⟨_, F⟩ := t.c.t.d.def_ 9 rfl; fnG_zero (at_ := ("is_one_of", none)) rfl (He.glo_ok t.X t.G (t.c.t.d.fact 9 (f := .glo "is_one_of") rfl)) rfl F (fun _ _ _ _ _ _ => ⟨rfl, rfl, rfl, rfl, rfl, rfl⟩) (fun _ _ _ _ _ _ us hl => match us, hl with | [_, _], _ => rfl)
theorem fg9 (t : Told w K mg base h0) (g : Gx (Sg K) Bt φ lv Pg w K mg base) : FnG (Sg K) Pg w K mg base (arK 2 (runB finF n_is_one_of (b_is_one_of))) (lv + 1) "is_one_of" ["value", "words"] :=
  let ⟨_, F⟩ := t.c.t.d.def_ 9 rfl; (fnG_of (at_ := ("is_one_of", none)) finF_ok rfl (He.glo_ok t.X t.G (t.c.t.d.fact 9 (f := .glo "is_one_of") rfl)) rfl F sc9 (fun _ _ _ _ _ _ => ⟨rfl, rfl, rfl, rfl, rfl, rfl⟩) (fun _ _ _ _ _ _ us hl => match us, hl with | [_, _], _ => rfl) g (b := fun φ => b_is_one_of) fun cdv A outer s H E hc C => d9 C).ar
theorem sc10 : FnScope n_is_heading_form ["value"] (defScope (top 28)) := ⟨rfl, rfl, rfl, by decide +kernel, rfl, by decide +kernel, by decide +kernel⟩
theorem fz10 (t : Told w K mg base h0) : FnG (Sg K) Pg w K mg base (fun _ _ => none) lv "is_heading_form" ["value"] :=
  let ⟨_, F⟩ := t.c.t.d.def_ 10 rfl; fnG_zero (at_ := ("is_heading_form", none)) rfl (He.glo_ok t.X t.G (t.c.t.d.fact 10 (f := .glo "is_heading_form") rfl)) rfl F (fun _ _ _ _ _ _ => ⟨rfl, rfl, rfl, rfl, rfl, rfl⟩) (fun _ _ _ _ _ _ us hl => match us, hl with | [_], _ => rfl)
theorem fg10 (t : Told w K mg base h0) (g : Gx (Sg K) Bt φ lv Pg w K mg base) : FnG (Sg K) Pg w K mg base (arK 1 (runB finF n_is_heading_form (b_is_heading_form (φ 1) (φ 2)))) (lv + 1) "is_heading_form" ["value"] :=
  let ⟨_, F⟩ := t.c.t.d.def_ 10 rfl; (fnG_of (at_ := ("is_heading_form", none)) finF_ok rfl (He.glo_ok t.X t.G (t.c.t.d.fact 10 (f := .glo "is_heading_form") rfl)) rfl F sc10 (fun _ _ _ _ _ _ => ⟨rfl, rfl, rfl, rfl, rfl, rfl⟩) (fun _ _ _ _ _ _ us hl => match us, hl with | [_], _ => rfl) g (b := fun φ => b_is_heading_form (φ 1) (φ 2)) fun cdv A outer s H E hc C => d10 C).ar
theorem sc11 : FnScope n_quarter_left ["vector"] (defScope (top 29)) := ⟨rfl, rfl, rfl, by decide +kernel, rfl, by decide +kernel, by decide +kernel⟩
theorem fz11 (t : Told w K mg base h0) : FnG (Sg K) Pg w K mg base (fun _ _ => none) lv "quarter_left" ["vector"] :=
  let ⟨_, F⟩ := t.c.t.d.def_ 11 rfl; fnG_zero (at_ := ("quarter_left", none)) rfl (He.glo_ok t.X t.G (t.c.t.d.fact 11 (f := .glo "quarter_left") rfl)) rfl F (fun _ _ _ _ _ _ => ⟨rfl, rfl, rfl, rfl, rfl, rfl⟩) (fun _ _ _ _ _ _ us hl => match us, hl with | [_], _ => rfl)
theorem fg11 (t : Told w K mg base h0) (g : Gx (Sg K) Bt φ lv Pg w K mg base) : FnG (Sg K) Pg w K mg base (arK 1 (runB finF n_quarter_left (b_quarter_left))) (lv + 1) "quarter_left" ["vector"] :=
  let ⟨_, F⟩ := t.c.t.d.def_ 11 rfl; (fnG_of (at_ := ("quarter_left", none)) finF_ok rfl (He.glo_ok t.X t.G (t.c.t.d.fact 11 (f := .glo "quarter_left") rfl)) rfl F sc11 (fun _ _ _ _ _ _ => ⟨rfl, rfl, rfl, rfl, rfl, rfl⟩) (fun _ _ _ _ _ _ us hl => match us, hl with | [_], _ => rfl) g (b := fun φ => b_quarter_left) fun cdv A outer s H E hc C => d11 C).ar
theorem sc12 : FnScope n_opposite ["vector"] (defScope (top 30)) := ⟨rfl, rfl, rfl, by decide +kernel, rfl, by decide +kernel, by decide +kernel⟩
theorem fz12 (t : Told w K mg base h0) : FnG (Sg K) Pg w K mg base (fun _ _ => none) lv "opposite" ["vector"] :=
  let ⟨_, F⟩ := t.c.t.d.def_ 12 rfl; fnG_zero (at_ := ("opposite", none)) rfl (He.glo_ok t.X t.G (t.c.t.d.fact 12 (f := .glo "opposite") rfl)) rfl F (fun _ _ _ _ _ _ => ⟨rfl, rfl, rfl, rfl, rfl, rfl⟩) (fun _ _ _ _ _ _ us hl => match us, hl with | [_], _ => rfl)
theorem fg12 (t : Told w K mg base h0) (g : Gx (Sg K) Bt φ lv Pg w K mg base) : FnG (Sg K) Pg w K mg base (arK 1 (runB finF n_opposite (b_opposite))) (lv + 1) "opposite" ["vector"] :=
  let ⟨_, F⟩ := t.c.t.d.def_ 12 rfl; (fnG_of (at_ := ("opposite", none)) finF_ok rfl (He.glo_ok t.X t.G (t.c.t.d.fact 12 (f := .glo "opposite") rfl)) rfl F sc12 (fun _ _ _ _ _ _ => ⟨rfl, rfl, rfl, rfl, rfl, rfl⟩) (fun _ _ _ _ _ _ us hl => match us, hl with | [_], _ => rfl) g (b := fun φ => b_opposite) fun cdv A outer s H E hc C => d12 C).ar
theorem sc13 : FnScope n_other_turn ["turn"] (defScope (top 31)) := ⟨rfl, rfl, rfl, by decide +kernel, rfl, by decide +kernel, by decide +kernel⟩
theorem fz13 (t : Told w K mg base h0) : FnG (Sg K) Pg w K mg base (fun _ _ => none) lv "other_turn" ["turn"] :=
  let ⟨_, F⟩ := t.c.t.d.def_ 13 rfl; fnG_zero (at_ := ("other_turn", none)) rfl (He.glo_ok t.X t.G (t.c.t.d.fact 13 (f := .glo "other_turn") rfl)) rfl F (fun _ _ _ _ _ _ => ⟨rfl, rfl, rfl, rfl, rfl, rfl⟩) (fun _ _ _ _ _ _ us hl => match us, hl with | [_], _ => rfl)
theorem fg13 (t : Told w K mg base h0) (g : Gx (Sg K) Bt φ lv Pg w K mg base) : FnG (Sg K) Pg w K mg base (arK 1 (runB finF n_other_turn (b_other_turn))) (lv + 1) "other_turn" ["turn"] :=
  let ⟨_, F⟩ := t.c.t.d.def_ 13 rfl; (fnG_of (at_ := ("other_turn", none)) finF_ok rfl (He.glo_ok t.X t.G (t.c.t.d.fact 13 (f := .glo "other_turn") rfl)) rfl F sc13 (fun _ _ _ _ _ _ => ⟨rfl, rfl, rfl, rfl, rfl, rfl⟩) (fun _ _ _ _ _ _ us hl => match us, hl with | [_], _ => rfl) g (b := fun φ => b_other_turn) fun cdv A outer s H E hc C => d13 C).ar
theorem sc14 : FnScope n_is_place_number ["value"] (defScope (top 35)) := ⟨rfl, rfl, rfl, by decide +kernel, rfl, by decide +kernel, by decide +kernel⟩
theorem fz14 (t : Told w K mg base h0) : FnG (Sg K) Pg w K mg base (fun _ _ => none) lv "is_place_number" ["value"] :=
  let ⟨_, F⟩ := t.c.t.d.def_ 14 rfl; fnG_zero (at_ := ("is_place_number", none)) rfl (He.glo_ok t.X t.G (t.c.t.d.fact 14 (f := .glo "is_place_number") rfl)) rfl F (fun _ _ _ _ _ _ => ⟨rfl, rfl, rfl, rfl, rfl, rfl⟩) (fun _ _ _ _ _ _ us hl => match us, hl with | [_], _ => rfl)
theorem fg14 (t : Told w K mg base h0) (g : Gx (Sg K) Bt φ lv Pg w K mg base) : FnG (Sg K) Pg w K mg base (arK 1 (runB finF n_is_place_number (b_is_place_number (φ 1)))) (lv + 1) "is_place_number" ["value"] :=
  let ⟨_, F⟩ := t.c.t.d.def_ 14 rfl; (fnG_of (at_ := ("is_place_number", none)) finF_ok rfl (He.glo_ok t.X t.G (t.c.t.d.fact 14 (f := .glo "is_place_number") rfl)) rfl F sc14 (fun _ _ _ _ _ _ => ⟨rfl, rfl, rfl, rfl, rfl, rfl⟩) (fun _ _ _ _ _ _ us hl => match us, hl with | [_], _ => rfl) g (b := fun φ => b_is_place_number (φ 1)) fun cdv A outer s H E hc C => d14 C).ar
theorem sc15 : FnScope n_is_leaf_form ["value"] (defScope (top 36)) := ⟨rfl, rfl, rfl, by decide +kernel, rfl, by decide +kernel, by decide +kernel⟩
theorem fz15 (t : Told w K mg base h0) : FnG (Sg K) Pg w K mg base (fun _ _ => none) lv "is_leaf_form" ["value"] :=
  let ⟨_, F⟩ := t.c.t.d.def_ 15 rfl; fnG_zero (at_ := ("is_leaf_form", none)) rfl (He.glo_ok t.X t.G (t.c.t.d.fact 15 (f := .glo "is_leaf_form") rfl)) rfl F (fun _ _ _ _ _ _ => ⟨rfl, rfl, rfl, rfl, rfl, rfl⟩) (fun _ _ _ _ _ _ us hl => match us, hl with | [_], _ => rfl)
theorem fg15 (t : Told w K mg base h0) (g : Gx (Sg K) Bt φ lv Pg w K mg base) : FnG (Sg K) Pg w K mg base (arK 1 (runB finF n_is_leaf_form (b_is_leaf_form (φ 14) (φ 8) (φ 2) (φ 9) (φ 1) (φ 10)))) (lv + 1) "is_leaf_form" ["value"] :=
  let ⟨_, F⟩ := t.c.t.d.def_ 15 rfl; (fnG_of (at_ := ("is_leaf_form", none)) finF_ok rfl (He.glo_ok t.X t.G (t.c.t.d.fact 15 (f := .glo "is_leaf_form") rfl)) rfl F sc15 (fun _ _ _ _ _ _ => ⟨rfl, rfl, rfl, rfl, rfl, rfl⟩) (fun _ _ _ _ _ _ us hl => match us, hl with | [_], _ => rfl) g (b := fun φ => b_is_leaf_form (φ 14) (φ 8) (φ 2) (φ 9) (φ 1) (φ 10)) fun cdv A outer s H E hc C => d15 C).ar
theorem sc16 : FnScope n_name_in ["leaf"] (defScope (top 37)) := ⟨rfl, rfl, rfl, by decide +kernel, rfl, by decide +kernel, by decide +kernel⟩
theorem fz16 (t : Told w K mg base h0) : FnG (Sg K) Pg w K mg base (fun _ _ => none) lv "name_in" ["leaf"] :=
  let ⟨_, F⟩ := t.c.t.d.def_ 16 rfl; fnG_zero (at_ := ("name_in", none)) rfl (He.glo_ok t.X t.G (t.c.t.d.fact 16 (f := .glo "name_in") rfl)) rfl F (fun _ _ _ _ _ _ => ⟨rfl, rfl, rfl, rfl, rfl, rfl⟩) (fun _ _ _ _ _ _ us hl => match us, hl with | [_], _ => rfl)
theorem fg16 (t : Told w K mg base h0) (g : Gx (Sg K) Bt φ lv Pg w K mg base) : FnG (Sg K) Pg w K mg base (arK 1 (runB finF n_name_in (b_name_in))) (lv + 1) "name_in" ["leaf"] :=
  let ⟨_, F⟩ := t.c.t.d.def_ 16 rfl; (fnG_of (at_ := ("name_in", none)) finF_ok rfl (He.glo_ok t.X t.G (t.c.t.d.fact 16 (f := .glo "name_in") rfl)) rfl F sc16 (fun _ _ _ _ _ _ => ⟨rfl, rfl, rfl, rfl, rfl, rfl⟩) (fun _ _ _ _ _ _ us hl => match us, hl with | [_], _ => rfl) g (b := fun φ => b_name_in) fun cdv A outer s H E hc C => d16 C).ar
theorem sc17 : FnScope n_hinge_of ["leaf"] (defScope (top 38)) := ⟨rfl, rfl, rfl, by decide +kernel, rfl, by decide +kernel, by decide +kernel⟩
theorem fz17 (t : Told w K mg base h0) : FnG (Sg K) Pg w K mg base (fun _ _ => none) lv "hinge_of" ["leaf"] :=
  let ⟨_, F⟩ := t.c.t.d.def_ 17 rfl; fnG_zero (at_ := ("hinge_of", none)) rfl (He.glo_ok t.X t.G (t.c.t.d.fact 17 (f := .glo "hinge_of") rfl)) rfl F (fun _ _ _ _ _ _ => ⟨rfl, rfl, rfl, rfl, rfl, rfl⟩) (fun _ _ _ _ _ _ us hl => match us, hl with | [_], _ => rfl)
theorem fg17 (t : Told w K mg base h0) (g : Gx (Sg K) Bt φ lv Pg w K mg base) : FnG (Sg K) Pg w K mg base (arK 1 (runB finF n_hinge_of (b_hinge_of))) (lv + 1) "hinge_of" ["leaf"] :=
  let ⟨_, F⟩ := t.c.t.d.def_ 17 rfl; (fnG_of (at_ := ("hinge_of", none)) finF_ok rfl (He.glo_ok t.X t.G (t.c.t.d.fact 17 (f := .glo "hinge_of") rfl)) rfl F sc17 (fun _ _ _ _ _ _ => ⟨rfl, rfl, rfl, rfl, rfl, rfl⟩) (fun _ _ _ _ _ _ us hl => match us, hl with | [_], _ => rfl) g (b := fun φ => b_hinge_of) fun cdv A outer s H E hc C => d17 C).ar
theorem sc18 : FnScope n_is_wall_form ["value"] (defScope (top 42)) := ⟨rfl, rfl, rfl, by decide +kernel, rfl, by decide +kernel, by decide +kernel⟩
theorem fz18 (t : Told w K mg base h0) : FnG (Sg K) Pg w K mg base (fun _ _ => none) lv "is_wall_form" ["value"] :=
  let ⟨_, F⟩ := t.c.t.d.def_ 18 rfl; fnG_zero (at_ := ("is_wall_form", none)) rfl (He.glo_ok t.X t.G (t.c.t.d.fact 18 (f := .glo "is_wall_form") rfl)) rfl F (fun _ _ _ _ _ _ => ⟨rfl, rfl, rfl, rfl, rfl, rfl⟩) (fun _ _ _ _ _ _ us hl => match us, hl with | [_], _ => rfl)
theorem fg18 (t : Told w K mg base h0) (g : Gx (Sg K) Bt φ lv Pg w K mg base) : FnG (Sg K) Pg w K mg base (arK 1 (runB finF n_is_wall_form (b_is_wall_form (φ 14) (φ 2)))) (lv + 1) "is_wall_form" ["value"] :=
  let ⟨_, F⟩ := t.c.t.d.def_ 18 rfl; (fnG_of (at_ := ("is_wall_form", none)) finF_ok rfl (He.glo_ok t.X t.G (t.c.t.d.fact 18 (f := .glo "is_wall_form") rfl)) rfl F sc18 (fun _ _ _ _ _ _ => ⟨rfl, rfl, rfl, rfl, rfl, rfl⟩) (fun _ _ _ _ _ _ us hl => match us, hl with | [_], _ => rfl) g (b := fun φ => b_is_wall_form (φ 14) (φ 2)) fun cdv A outer s H E hc C => d18 C).ar
theorem sc19 : FnScope n_is_next_leaf ["value", "before"] (defScope (top 43)) := ⟨rfl, rfl, rfl, by decide +kernel, rfl, by decide +kernel, by decide +kernel⟩
theorem fz19 (t : Told w K mg base h0) : FnG (Sg K) Pg w K mg base (fun _ _ => none) lv "is_next_leaf" ["value", "before"] :=
  let ⟨_, F⟩ := t.c.t.d.def_ 19 rfl; fnG_zero (at_ := ("is_next_leaf", none)) rfl (He.glo_ok t.X t.G (t.c.t.d.fact 19 (f := .glo "is_next_leaf") rfl)) rfl F (fun _ _ _ _ _ _ => ⟨rfl, rfl, rfl, rfl, rfl, rfl⟩) (fun _ _ _ _ _ _ us hl => match us, hl with | [_, _], _ => rfl)
theorem fg19 (t : Told w K mg base h0) (g : Gx (Sg K) Bt φ lv Pg w K mg base) : FnG (Sg K) Pg w K mg base (arK 2 (runB finF n_is_next_leaf (b_is_next_leaf (φ 15) (φ 17)))) (lv + 1) "is_next_leaf" ["value", "before"] :=
  let ⟨_, F⟩ := t.c.t.d.def_ 19 rfl; (fnG_of (at_ := ("is_next_leaf", none)) finF_ok rfl (He.glo_ok t.X t.G (t.c.t.d.fact 19 (f := .glo "is_next_leaf") rfl)) rfl F sc19 (fun _ _ _ _ _ _ => ⟨rfl, rfl, rfl, rfl, rfl, rfl⟩) (fun _ _ _ _ _ _ us hl => match us, hl with | [_, _], _ => rfl) g (b := fun φ => b_is_next_leaf (φ 15) (φ 17)) fun cdv A outer s H E hc C => d19 C).ar
theorem sc20 : FnScope n_wrong_walls ["value"] (defScope (top 44)) := ⟨rfl, rfl, rfl, by decide +kernel, rfl, by decide +kernel, by decide +kernel⟩
theorem fz20 (t : Told w K mg base h0) : FnG (Sg K) Pg w K mg base (fun _ _ => none) lv "wrong_walls" ["value"] :=
  let ⟨_, F⟩ := t.c.t.d.def_ 20 rfl; fnG_zero (at_ := ("wrong_walls", none)) rfl (He.glo_ok t.X t.G (t.c.t.d.fact 20 (f := .glo "wrong_walls") rfl)) rfl F (fun _ _ _ _ _ _ => ⟨rfl, rfl, rfl, rfl, rfl, rfl⟩) (fun _ _ _ _ _ _ us hl => match us, hl with | [_], _ => rfl)
theorem fg20 (t : Told w K mg base h0) (g : Gx (Sg K) Bt φ lv Pg w K mg base) : FnG (Sg K) Pg w K mg base (arK 1 (runB finF n_wrong_walls (b_wrong_walls (φ 3) 59))) (lv + 1) "wrong_walls" ["value"] :=
  let ⟨_, F⟩ := t.c.t.d.def_ 20 rfl; (fnG_of (at_ := ("wrong_walls", none)) finF_ok rfl (He.glo_ok t.X t.G (t.c.t.d.fact 20 (f := .glo "wrong_walls") rfl)) rfl F sc20 (fun _ _ _ _ _ _ => ⟨rfl, rfl, rfl, rfl, rfl, rfl⟩) (fun _ _ _ _ _ _ us hl => match us, hl with | [_], _ => rfl) g (b := fun φ => b_wrong_walls (φ 3) 59) fun cdv A outer s H E hc C => d20 C (lamAt t (by simp [tf]) hc)).ar
theorem sc21 : FnScope n_is_house_form ["value"] (defScope (top 45)) := ⟨rfl, rfl, rfl, by decide +kernel, rfl, by decide +kernel, by decide +kernel⟩
theorem fz21 (t : Told w K mg base h0) : FnG (Sg K) Pg w K mg base (fun _ _ => none) lv "is_house_form" ["value"] :=
  let ⟨_, F⟩ := t.c.t.d.def_ 21 rfl; fnG_zero (at_ := ("is_house_form", none)) rfl (He.glo_ok t.X t.G (t.c.t.d.fact 21 (f := .glo "is_house_form") rfl)) rfl F (fun _ _ _ _ _ _ => ⟨rfl, rfl, rfl, rfl, rfl, rfl⟩) (fun _ _ _ _ _ _ us hl => match us, hl with | [_], _ => rfl)
theorem fg21 (t : Told w K mg base h0) (g : Gx (Sg K) Bt φ lv Pg w K mg base) : FnG (Sg K) Pg w K mg base (arK 1 (runB finF n_is_house_form (b_is_house_form (φ 4) (φ 2) (φ 20) 19))) (lv + 1) "is_house_form" ["value"] :=
  let ⟨_, F⟩ := t.c.t.d.def_ 21 rfl; (fnG_of (at_ := ("is_house_form", none)) finF_ok rfl (He.glo_ok t.X t.G (t.c.t.d.fact 21 (f := .glo "is_house_form") rfl)) rfl F sc21 (fun _ _ _ _ _ _ => ⟨rfl, rfl, rfl, rfl, rfl, rfl⟩) (fun _ _ _ _ _ _ us hl => match us, hl with | [_], _ => rfl) g (b := fun φ => b_is_house_form (φ 4) (φ 2) (φ 20) 19) fun cdv A outer s H E hc C => d21 C).ar
theorem sc22 : FnScope n_leaf_names ["house"] (defScope (top 46)) := ⟨rfl, rfl, rfl, by decide +kernel, rfl, by decide +kernel, by decide +kernel⟩
theorem fz22 (t : Told w K mg base h0) : FnG (Sg K) Pg w K mg base (fun _ _ => none) lv "leaf_names" ["house"] :=
  let ⟨_, F⟩ := t.c.t.d.def_ 22 rfl; fnG_zero (at_ := ("leaf_names", none)) rfl (He.glo_ok t.X t.G (t.c.t.d.fact 22 (f := .glo "leaf_names") rfl)) rfl F (fun _ _ _ _ _ _ => ⟨rfl, rfl, rfl, rfl, rfl, rfl⟩) (fun _ _ _ _ _ _ us hl => match us, hl with | [_], _ => rfl)
theorem fg22 (t : Told w K mg base h0) (g : Gx (Sg K) Bt φ lv Pg w K mg base) : FnG (Sg K) Pg w K mg base (arK 1 (runB finF n_leaf_names (b_leaf_names (φ 16)))) (lv + 1) "leaf_names" ["house"] :=
  let ⟨_, F⟩ := t.c.t.d.def_ 22 rfl; (fnG_of (at_ := ("leaf_names", none)) finF_ok rfl (He.glo_ok t.X t.G (t.c.t.d.fact 22 (f := .glo "leaf_names") rfl)) rfl F sc22 (fun _ _ _ _ _ _ => ⟨rfl, rfl, rfl, rfl, rfl, rfl⟩) (fun _ _ _ _ _ _ us hl => match us, hl with | [_], _ => rfl) g (b := fun φ => b_leaf_names (φ 16)) fun cdv A outer s H E hc C => d22 C).ar
theorem sc23 : FnScope n_check_turn ["value"] (defScope (top 48)) := ⟨rfl, rfl, rfl, by decide +kernel, rfl, by decide +kernel, by decide +kernel⟩
theorem fz23 (t : Told w K mg base h0) : FnG (Sg K) Pg w K mg base (fun _ _ => none) lv "check_turn" ["value"] :=
  let ⟨_, F⟩ := t.c.t.d.def_ 23 rfl; fnG_zero (at_ := ("check_turn", none)) rfl (He.glo_ok t.X t.G (t.c.t.d.fact 23 (f := .glo "check_turn") rfl)) rfl F (fun _ _ _ _ _ _ => ⟨rfl, rfl, rfl, rfl, rfl, rfl⟩) (fun _ _ _ _ _ _ us hl => match us, hl with | [_], _ => rfl)
theorem fg23 (t : Told w K mg base h0) (g : Gx (Sg K) Bt φ lv Pg w K mg base) : FnG (Sg K) Pg w K mg base (arK 1 (runB finF n_check_turn (b_check_turn (φ 9)))) (lv + 1) "check_turn" ["value"] :=
  let ⟨_, F⟩ := t.c.t.d.def_ 23 rfl; (fnG_of (at_ := ("check_turn", none)) finF_ok rfl (He.glo_ok t.X t.G (t.c.t.d.fact 23 (f := .glo "check_turn") rfl)) rfl F sc23 (fun _ _ _ _ _ _ => ⟨rfl, rfl, rfl, rfl, rfl, rfl⟩) (fun _ _ _ _ _ _ us hl => match us, hl with | [_], _ => rfl) g (b := fun φ => b_check_turn (φ 9)) fun cdv A outer s H E hc C => d23 C).ar
theorem sc24 : FnScope n_check_house ["value"] (defScope (top 49)) := ⟨rfl, rfl, rfl, by decide +kernel, rfl, by decide +kernel, by decide +kernel⟩
theorem fz24 (t : Told w K mg base h0) : FnG (Sg K) Pg w K mg base (fun _ _ => none) lv "check_house" ["value"] :=
  let ⟨_, F⟩ := t.c.t.d.def_ 24 rfl; fnG_zero (at_ := ("check_house", none)) rfl (He.glo_ok t.X t.G (t.c.t.d.fact 24 (f := .glo "check_house") rfl)) rfl F (fun _ _ _ _ _ _ => ⟨rfl, rfl, rfl, rfl, rfl, rfl⟩) (fun _ _ _ _ _ _ us hl => match us, hl with | [_], _ => rfl)
theorem fg24 (t : Told w K mg base h0) (g : Gx (Sg K) Bt φ lv Pg w K mg base) : FnG (Sg K) Pg w K mg base (arK 1 (runB finF n_check_house (b_check_house (φ 21)))) (lv + 1) "check_house" ["value"] :=
  let ⟨_, F⟩ := t.c.t.d.def_ 24 rfl; (fnG_of (at_ := ("check_house", none)) finF_ok rfl (He.glo_ok t.X t.G (t.c.t.d.fact 24 (f := .glo "check_house") rfl)) rfl F sc24 (fun _ _ _ _ _ _ => ⟨rfl, rfl, rfl, rfl, rfl, rfl⟩) (fun _ _ _ _ _ _ us hl => match us, hl with | [_], _ => rfl) g (b := fun φ => b_check_house (φ 21)) fun cdv A outer s H E hc C => d24 C).ar
theorem sc25 : FnScope n_wide_of ["frame"] (defScope (top 57)) := ⟨rfl, rfl, rfl, by decide +kernel, rfl, by decide +kernel, by decide +kernel⟩
theorem fz25 (t : Told w K mg base h0) : FnG (Sg K) Pg w K mg base (fun _ _ => none) lv "wide_of" ["frame"] :=
  let ⟨_, F⟩ := t.c.t.d.def_ 25 rfl; fnG_zero (at_ := ("wide_of", none)) rfl (He.glo_ok t.X t.G (t.c.t.d.fact 25 (f := .glo "wide_of") rfl)) rfl F (fun _ _ _ _ _ _ => ⟨rfl, rfl, rfl, rfl, rfl, rfl⟩) (fun _ _ _ _ _ _ us hl => match us, hl with | [_], _ => rfl)
theorem fg25 (t : Told w K mg base h0) (g : Gx (Sg K) Bt φ lv Pg w K mg base) : FnG (Sg K) Pg w K mg base (arK 1 (runB finF n_wide_of (b_wide_of))) (lv + 1) "wide_of" ["frame"] :=
  let ⟨_, F⟩ := t.c.t.d.def_ 25 rfl; (fnG_of (at_ := ("wide_of", none)) finF_ok rfl (He.glo_ok t.X t.G (t.c.t.d.fact 25 (f := .glo "wide_of") rfl)) rfl F sc25 (fun _ _ _ _ _ _ => ⟨rfl, rfl, rfl, rfl, rfl, rfl⟩) (fun _ _ _ _ _ _ us hl => match us, hl with | [_], _ => rfl) g (b := fun φ => b_wide_of) fun cdv A outer s H E hc C => d25 C).ar
theorem sc26 : FnScope n_is_frame_form ["value"] (defScope (top 58)) := ⟨rfl, rfl, rfl, by decide +kernel, rfl, by decide +kernel, by decide +kernel⟩
theorem fz26 (t : Told w K mg base h0) : FnG (Sg K) Pg w K mg base (fun _ _ => none) lv "is_frame_form" ["value"] :=
  let ⟨_, F⟩ := t.c.t.d.def_ 26 rfl; fnG_zero (at_ := ("is_frame_form", none)) rfl (He.glo_ok t.X t.G (t.c.t.d.fact 26 (f := .glo "is_frame_form") rfl)) rfl F (fun _ _ _ _ _ _ => ⟨rfl, rfl, rfl, rfl, rfl, rfl⟩) (fun _ _ _ _ _ _ us hl => match us, hl with | [_], _ => rfl)
theorem fg26 (t : Told w K mg base h0) (g : Gx (Sg K) Bt φ lv Pg w K mg base) : FnG (Sg K) Pg w K mg base (arK 1 (runB finF n_is_frame_form (b_is_frame_form (φ 14) (φ 8) (φ 2) (φ 25)))) (lv + 1) "is_frame_form" ["value"] :=
  let ⟨_, F⟩ := t.c.t.d.def_ 26 rfl; (fnG_of (at_ := ("is_frame_form", none)) finF_ok rfl (He.glo_ok t.X t.G (t.c.t.d.fact 26 (f := .glo "is_frame_form") rfl)) rfl F sc26 (fun _ _ _ _ _ _ => ⟨rfl, rfl, rfl, rfl, rfl, rfl⟩) (fun _ _ _ _ _ _ us hl => match us, hl with | [_], _ => rfl) g (b := fun φ => b_is_frame_form (φ 14) (φ 8) (φ 2) (φ 25)) fun cdv A outer s H E hc C => d26 C).ar
theorem sc27 : FnScope n_do_frames_touch ["one", "two"] (defScope (top 59)) := ⟨rfl, rfl, rfl, by decide +kernel, rfl, by decide +kernel, by decide +kernel⟩
theorem fz27 (t : Told w K mg base h0) : FnG (Sg K) Pg w K mg base (fun _ _ => none) lv "do_frames_touch" ["one", "two"] :=
  let ⟨_, F⟩ := t.c.t.d.def_ 27 rfl; fnG_zero (at_ := ("do_frames_touch", none)) rfl (He.glo_ok t.X t.G (t.c.t.d.fact 27 (f := .glo "do_frames_touch") rfl)) rfl F (fun _ _ _ _ _ _ => ⟨rfl, rfl, rfl, rfl, rfl, rfl⟩) (fun _ _ _ _ _ _ us hl => match us, hl with | [_, _], _ => rfl)
theorem fg27 (t : Told w K mg base h0) (g : Gx (Sg K) Bt φ lv Pg w K mg base) : FnG (Sg K) Pg w K mg base (arK 2 (runB finF n_do_frames_touch (b_do_frames_touch))) (lv + 1) "do_frames_touch" ["one", "two"] :=
  let ⟨_, F⟩ := t.c.t.d.def_ 27 rfl; (fnG_of (at_ := ("do_frames_touch", none)) finF_ok rfl (He.glo_ok t.X t.G (t.c.t.d.fact 27 (f := .glo "do_frames_touch") rfl)) rfl F sc27 (fun _ _ _ _ _ _ => ⟨rfl, rfl, rfl, rfl, rfl, rfl⟩) (fun _ _ _ _ _ _ us hl => match us, hl with | [_, _], _ => rfl) g (b := fun φ => b_do_frames_touch) fun cdv A outer s H E hc C => d27 C).ar
theorem sc28 : FnScope n_is_next_frame ["value", "before"] (defScope (top 60)) := ⟨rfl, rfl, rfl, by decide +kernel, rfl, by decide +kernel, by decide +kernel⟩
theorem fz28 (t : Told w K mg base h0) : FnG (Sg K) Pg w K mg base (fun _ _ => none) lv "is_next_frame" ["value", "before"] :=
  let ⟨_, F⟩ := t.c.t.d.def_ 28 rfl; fnG_zero (at_ := ("is_next_frame", none)) rfl (He.glo_ok t.X t.G (t.c.t.d.fact 28 (f := .glo "is_next_frame") rfl)) rfl F (fun _ _ _ _ _ _ => ⟨rfl, rfl, rfl, rfl, rfl, rfl⟩) (fun _ _ _ _ _ _ us hl => match us, hl with | [_, _], _ => rfl)
theorem fg28 (t : Told w K mg base h0) (g : Gx (Sg K) Bt φ lv Pg w K mg base) : FnG (Sg K) Pg w K mg base (arK 2 (runB finF n_is_next_frame (b_is_next_frame (φ 26) (φ 27)))) (lv + 1) "is_next_frame" ["value", "before"] :=
  let ⟨_, F⟩ := t.c.t.d.def_ 28 rfl; (fnG_of (at_ := ("is_next_frame", none)) finF_ok rfl (He.glo_ok t.X t.G (t.c.t.d.fact 28 (f := .glo "is_next_frame") rfl)) rfl F sc28 (fun _ _ _ _ _ _ => ⟨rfl, rfl, rfl, rfl, rfl, rfl⟩) (fun _ _ _ _ _ _ us hl => match us, hl with | [_, _], _ => rfl) g (b := fun φ => b_is_next_frame (φ 26) (φ 27)) fun cdv A outer s H E hc C => d28 C).ar
theorem sc29 : FnScope n_wrong_frames ["value"] (defScope (top 61)) := ⟨rfl, rfl, rfl, by decide +kernel, rfl, by decide +kernel, by decide +kernel⟩
theorem fz29 (t : Told w K mg base h0) : FnG (Sg K) Pg w K mg base (fun _ _ => none) lv "wrong_frames" ["value"] :=
  let ⟨_, F⟩ := t.c.t.d.def_ 29 rfl; fnG_zero (at_ := ("wrong_frames", none)) rfl (He.glo_ok t.X t.G (t.c.t.d.fact 29 (f := .glo "wrong_frames") rfl)) rfl F (fun _ _ _ _ _ _ => ⟨rfl, rfl, rfl, rfl, rfl, rfl⟩) (fun _ _ _ _ _ _ us hl => match us, hl with | [_], _ => rfl)
theorem fg29 (t : Told w K mg base h0) (g : Gx (Sg K) Bt φ lv Pg w K mg base) : FnG (Sg K) Pg w K mg base (arK 1 (runB finF n_wrong_frames (b_wrong_frames (φ 4) 28))) (lv + 1) "wrong_frames" ["value"] :=
  let ⟨_, F⟩ := t.c.t.d.def_ 29 rfl; (fnG_of (at_ := ("wrong_frames", none)) finF_ok rfl (He.glo_ok t.X t.G (t.c.t.d.fact 29 (f := .glo "wrong_frames") rfl)) rfl F sc29 (fun _ _ _ _ _ _ => ⟨rfl, rfl, rfl, rfl, rfl, rfl⟩) (fun _ _ _ _ _ _ us hl => match us, hl with | [_], _ => rfl) g (b := fun φ => b_wrong_frames (φ 4) 28) fun cdv A outer s H E hc C => d29 C).ar
theorem sc30 : FnScope n_is_hanging ["value"] (defScope (top 62)) := ⟨rfl, rfl, rfl, by decide +kernel, rfl, by decide +kernel, by decide +kernel⟩
theorem fz30 (t : Told w K mg base h0) : FnG (Sg K) Pg w K mg base (fun _ _ => none) lv "is_hanging" ["value"] :=
  let ⟨_, F⟩ := t.c.t.d.def_ 30 rfl; fnG_zero (at_ := ("is_hanging", none)) rfl (He.glo_ok t.X t.G (t.c.t.d.fact 30 (f := .glo "is_hanging") rfl)) rfl F (fun _ _ _ _ _ _ => ⟨rfl, rfl, rfl, rfl, rfl, rfl⟩) (fun _ _ _ _ _ _ us hl => match us, hl with | [_], _ => rfl)
theorem fg30 (t : Told w K mg base h0) (g : Gx (Sg K) Bt φ lv Pg w K mg base) : FnG (Sg K) Pg w K mg base (arK 1 (runB finF n_is_hanging (b_is_hanging (φ 9) (φ 2)))) (lv + 1) "is_hanging" ["value"] :=
  let ⟨_, F⟩ := t.c.t.d.def_ 30 rfl; (fnG_of (at_ := ("is_hanging", none)) finF_ok rfl (He.glo_ok t.X t.G (t.c.t.d.fact 30 (f := .glo "is_hanging") rfl)) rfl F sc30 (fun _ _ _ _ _ _ => ⟨rfl, rfl, rfl, rfl, rfl, rfl⟩) (fun _ _ _ _ _ _ us hl => match us, hl with | [_], _ => rfl) g (b := fun φ => b_is_hanging (φ 9) (φ 2)) fun cdv A outer s H E hc C => d30 C).ar
theorem sc31 : FnScope n_wrong_hangings ["frames", "value"] (defScope (top 63)) := ⟨rfl, rfl, rfl, by decide +kernel, rfl, by decide +kernel, by decide +kernel⟩
theorem fz31 (t : Told w K mg base h0) : FnG (Sg K) Pg w K mg base (fun _ _ => none) lv "wrong_hangings" ["frames", "value"] :=
  let ⟨_, F⟩ := t.c.t.d.def_ 31 rfl; fnG_zero (at_ := ("wrong_hangings", none)) rfl (He.glo_ok t.X t.G (t.c.t.d.fact 31 (f := .glo "wrong_hangings") rfl)) rfl F (fun _ _ _ _ _ _ => ⟨rfl, rfl, rfl, rfl, rfl, rfl⟩) (fun _ _ _ _ _ _ us hl => match us, hl with | [_, _], _ => rfl)
theorem fg31 (t : Told w K mg base h0) (g : Gx (Sg K) Bt φ lv Pg w K mg base) : FnG (Sg K) Pg w K mg base (arK 2 (runB finF n_wrong_hangings (b_wrong_hangings (φ 5) 60))) (lv + 1) "wrong_hangings" ["frames", "value"] :=
  let ⟨_, F⟩ := t.c.t.d.def_ 31 rfl; (fnG_of (at_ := ("wrong_hangings", none)) finF_ok rfl (He.glo_ok t.X t.G (t.c.t.d.fact 31 (f := .glo "wrong_hangings") rfl)) rfl F sc31 (fun _ _ _ _ _ _ => ⟨rfl, rfl, rfl, rfl, rfl, rfl⟩) (fun _ _ _ _ _ _ us hl => match us, hl with | [_, _], _ => rfl) g (b := fun φ => b_wrong_hangings (φ 5) 60) fun cdv A outer s H E hc C => d31 C (lamAt t (by simp [tf]) hc)).ar
theorem sc32 : FnScope n_heading_along ["frame"] (defScope (top 64)) := ⟨rfl, rfl, rfl, by decide +kernel, rfl, by decide +kernel, by decide +kernel⟩
theorem fz32 (t : Told w K mg base h0) : FnG (Sg K) Pg w K mg base (fun _ _ => none) lv "heading_along" ["frame"] :=
  let ⟨_, F⟩ := t.c.t.d.def_ 32 rfl; fnG_zero (at_ := ("heading_along", none)) rfl (He.glo_ok t.X t.G (t.c.t.d.fact 32 (f := .glo "heading_along") rfl)) rfl F (fun _ _ _ _ _ _ => ⟨rfl, rfl, rfl, rfl, rfl, rfl⟩) (fun _ _ _ _ _ _ us hl => match us, hl with | [_], _ => rfl)
theorem fg32 (t : Told w K mg base h0) (g : Gx (Sg K) Bt φ lv Pg w K mg base) : FnG (Sg K) Pg w K mg base (arK 1 (runB finF n_heading_along (b_heading_along))) (lv + 1) "heading_along" ["frame"] :=
  let ⟨_, F⟩ := t.c.t.d.def_ 32 rfl; (fnG_of (at_ := ("heading_along", none)) finF_ok rfl (He.glo_ok t.X t.G (t.c.t.d.fact 32 (f := .glo "heading_along") rfl)) rfl F sc32 (fun _ _ _ _ _ _ => ⟨rfl, rfl, rfl, rfl, rfl, rfl⟩) (fun _ _ _ _ _ _ us hl => match us, hl with | [_], _ => rfl) g (b := fun φ => b_heading_along) fun cdv A outer s H E hc C => d32 C).ar
theorem sc33 : FnScope n_hung_leaf ["frame", "post", "side"] (defScope (top 65)) := ⟨rfl, rfl, rfl, by decide +kernel, rfl, by decide +kernel, by decide +kernel⟩
theorem fz33 (t : Told w K mg base h0) : FnG (Sg K) Pg w K mg base (fun _ _ => none) lv "hung_leaf" ["frame", "post", "side"] :=
  let ⟨_, F⟩ := t.c.t.d.def_ 33 rfl; fnG_zero (at_ := ("hung_leaf", none)) rfl (He.glo_ok t.X t.G (t.c.t.d.fact 33 (f := .glo "hung_leaf") rfl)) rfl F (fun _ _ _ _ _ _ => ⟨rfl, rfl, rfl, rfl, rfl, rfl⟩) (fun _ _ _ _ _ _ us hl => match us, hl with | [_, _, _], _ => rfl)
theorem fg33 (t : Told w K mg base h0) (g : Gx (Sg K) Bt φ lv Pg w K mg base) : FnG (Sg K) Pg w K mg base (arK 3 (runB finF n_hung_leaf (b_hung_leaf (φ 25) (φ 32) (φ 11) (φ 12) (φ 13)))) (lv + 1) "hung_leaf" ["frame", "post", "side"] :=
  let ⟨_, F⟩ := t.c.t.d.def_ 33 rfl; (fnG_of (at_ := ("hung_leaf", none)) finF_ok rfl (He.glo_ok t.X t.G (t.c.t.d.fact 33 (f := .glo "hung_leaf") rfl)) rfl F sc33 (fun _ _ _ _ _ _ => ⟨rfl, rfl, rfl, rfl, rfl, rfl⟩) (fun _ _ _ _ _ _ us hl => match us, hl with | [_, _, _], _ => rfl) g (b := fun φ => b_hung_leaf (φ 25) (φ 32) (φ 11) (φ 12) (φ 13)) fun cdv A outer s H E hc C => d33 C).ar
theorem sc34 : FnScope n_hung_by ["frame", "hanging"] (defScope (top 66)) := ⟨rfl, rfl, rfl, by decide +kernel, rfl, by decide +kernel, by decide +kernel⟩
theorem fz34 (t : Told w K mg base h0) : FnG (Sg K) Pg w K mg base (fun _ _ => none) lv "hung_by" ["frame", "hanging"] :=
  let ⟨_, F⟩ := t.c.t.d.def_ 34 rfl; fnG_zero (at_ := ("hung_by", none)) rfl (He.glo_ok t.X t.G (t.c.t.d.fact 34 (f := .glo "hung_by") rfl)) rfl F (fun _ _ _ _ _ _ => ⟨rfl, rfl, rfl, rfl, rfl, rfl⟩) (fun _ _ _ _ _ _ us hl => match us, hl with | [_, _], _ => rfl)
theorem fg34 (t : Told w K mg base h0) (g : Gx (Sg K) Bt φ lv Pg w K mg base) : FnG (Sg K) Pg w K mg base (arK 2 (runB finF n_hung_by (b_hung_by (φ 33)))) (lv + 1) "hung_by" ["frame", "hanging"] :=
  let ⟨_, F⟩ := t.c.t.d.def_ 34 rfl; (fnG_of (at_ := ("hung_by", none)) finF_ok rfl (He.glo_ok t.X t.G (t.c.t.d.fact 34 (f := .glo "hung_by") rfl)) rfl F sc34 (fun _ _ _ _ _ _ => ⟨rfl, rfl, rfl, rfl, rfl, rfl⟩) (fun _ _ _ _ _ _ us hl => match us, hl with | [_, _], _ => rfl) g (b := fun φ => b_hung_by (φ 33)) fun cdv A outer s H E hc C => d34 C).ar
theorem sc35 : FnScope n_all_hung ["frames", "hangings"] (defScope (top 67)) := ⟨rfl, rfl, rfl, by decide +kernel, rfl, by decide +kernel, by decide +kernel⟩
theorem fz35 (t : Told w K mg base h0) : FnG (Sg K) Pg w K mg base (fun _ _ => none) lv "all_hung" ["frames", "hangings"] :=
  let ⟨_, F⟩ := t.c.t.d.def_ 35 rfl; fnG_zero (at_ := ("all_hung", none)) rfl (He.glo_ok t.X t.G (t.c.t.d.fact 35 (f := .glo "all_hung") rfl)) rfl F (fun _ _ _ _ _ _ => ⟨rfl, rfl, rfl, rfl, rfl, rfl⟩) (fun _ _ _ _ _ _ us hl => match us, hl with | [_, _], _ => rfl)
theorem fg35 (t : Told w K mg base h0) (g : Gx (Sg K) Bt φ lv Pg w K mg base) : FnG (Sg K) Pg w K mg base (arK 2 (runB finF n_all_hung (b_all_hung (φ 34)))) (lv + 1) "all_hung" ["frames", "hangings"] :=
  let ⟨_, F⟩ := t.c.t.d.def_ 35 rfl; (fnG_of (at_ := ("all_hung", none)) finF_ok rfl (He.glo_ok t.X t.G (t.c.t.d.fact 35 (f := .glo "all_hung") rfl)) rfl F sc35 (fun _ _ _ _ _ _ => ⟨rfl, rfl, rfl, rfl, rfl, rfl⟩) (fun _ _ _ _ _ _ us hl => match us, hl with | [_, _], _ => rfl) g (b := fun φ => b_all_hung (φ 34)) fun cdv A outer s H E hc C => d35 C).ar
theorem sc36 : FnScope n_check_frame ["value"] (defScope (top 69)) := ⟨rfl, rfl, rfl, by decide +kernel, rfl, by decide +kernel, by decide +kernel⟩
theorem fz36 (t : Told w K mg base h0) : FnG (Sg K) Pg w K mg base (fun _ _ => none) lv "check_frame" ["value"] :=
  let ⟨_, F⟩ := t.c.t.d.def_ 36 rfl; fnG_zero (at_ := ("check_frame", none)) rfl (He.glo_ok t.X t.G (t.c.t.d.fact 36 (f := .glo "check_frame") rfl)) rfl F (fun _ _ _ _ _ _ => ⟨rfl, rfl, rfl, rfl, rfl, rfl⟩) (fun _ _ _ _ _ _ us hl => match us, hl with | [_], _ => rfl)
theorem fg36 (t : Told w K mg base h0) (g : Gx (Sg K) Bt φ lv Pg w K mg base) : FnG (Sg K) Pg w K mg base (arK 1 (runB finF n_check_frame (b_check_frame (φ 26)))) (lv + 1) "check_frame" ["value"] :=
  let ⟨_, F⟩ := t.c.t.d.def_ 36 rfl; (fnG_of (at_ := ("check_frame", none)) finF_ok rfl (He.glo_ok t.X t.G (t.c.t.d.fact 36 (f := .glo "check_frame") rfl)) rfl F sc36 (fun _ _ _ _ _ _ => ⟨rfl, rfl, rfl, rfl, rfl, rfl⟩) (fun _ _ _ _ _ _ us hl => match us, hl with | [_], _ => rfl) g (b := fun φ => b_check_frame (φ 26)) fun cdv A outer s H E hc C => d36 C).ar
theorem sc37 : FnScope n_check_post ["value"] (defScope (top 70)) := ⟨rfl, rfl, rfl, by decide +kernel, rfl, by decide +kernel, by decide +kernel⟩
theorem fz37 (t : Told w K mg base h0) : FnG (Sg K) Pg w K mg base (fun _ _ => none) lv "check_post" ["value"] :=
  let ⟨_, F⟩ := t.c.t.d.def_ 37 rfl; fnG_zero (at_ := ("check_post", none)) rfl (He.glo_ok t.X t.G (t.c.t.d.fact 37 (f := .glo "check_post") rfl)) rfl F (fun _ _ _ _ _ _ => ⟨rfl, rfl, rfl, rfl, rfl, rfl⟩) (fun _ _ _ _ _ _ us hl => match us, hl with | [_], _ => rfl)
theorem fg37 (t : Told w K mg base h0) (g : Gx (Sg K) Bt φ lv Pg w K mg base) : FnG (Sg K) Pg w K mg base (arK 1 (runB finF n_check_post (b_check_post (φ 9)))) (lv + 1) "check_post" ["value"] :=
  let ⟨_, F⟩ := t.c.t.d.def_ 37 rfl; (fnG_of (at_ := ("check_post", none)) finF_ok rfl (He.glo_ok t.X t.G (t.c.t.d.fact 37 (f := .glo "check_post") rfl)) rfl F sc37 (fun _ _ _ _ _ _ => ⟨rfl, rfl, rfl, rfl, rfl, rfl⟩) (fun _ _ _ _ _ _ us hl => match us, hl with | [_], _ => rfl) g (b := fun φ => b_check_post (φ 9)) fun cdv A outer s H E hc C => d37 C).ar
theorem sc38 : FnScope n_check_frames ["value"] (defScope (top 71)) := ⟨rfl, rfl, rfl, by decide +kernel, rfl, by decide +kernel, by decide +kernel⟩
theorem fz38 (t : Told w K mg base h0) : FnG (Sg K) Pg w K mg base (fun _ _ => none) lv "check_frames" ["value"] :=
  let ⟨_, F⟩ := t.c.t.d.def_ 38 rfl; fnG_zero (at_ := ("check_frames", none)) rfl (He.glo_ok t.X t.G (t.c.t.d.fact 38 (f := .glo "check_frames") rfl)) rfl F (fun _ _ _ _ _ _ => ⟨rfl, rfl, rfl, rfl, rfl, rfl⟩) (fun _ _ _ _ _ _ us hl => match us, hl with | [_], _ => rfl)
theorem fg38 (t : Told w K mg base h0) (g : Gx (Sg K) Bt φ lv Pg w K mg base) : FnG (Sg K) Pg w K mg base (arK 1 (runB finF n_check_frames (b_check_frames (φ 29)))) (lv + 1) "check_frames" ["value"] :=
  let ⟨_, F⟩ := t.c.t.d.def_ 38 rfl; (fnG_of (at_ := ("check_frames", none)) finF_ok rfl (He.glo_ok t.X t.G (t.c.t.d.fact 38 (f := .glo "check_frames") rfl)) rfl F sc38 (fun _ _ _ _ _ _ => ⟨rfl, rfl, rfl, rfl, rfl, rfl⟩) (fun _ _ _ _ _ _ us hl => match us, hl with | [_], _ => rfl) g (b := fun φ => b_check_frames (φ 29)) fun cdv A outer s H E hc C => d38 C).ar
theorem sc39 : FnScope n_check_hangings ["frames", "hangings"] (defScope (top 72)) := ⟨rfl, rfl, rfl, by decide +kernel, rfl, by decide +kernel, by decide +kernel⟩
theorem fz39 (t : Told w K mg base h0) : FnG (Sg K) Pg w K mg base (fun _ _ => none) lv "check_hangings" ["frames", "hangings"] :=
  let ⟨_, F⟩ := t.c.t.d.def_ 39 rfl; fnG_zero (at_ := ("check_hangings", none)) rfl (He.glo_ok t.X t.G (t.c.t.d.fact 39 (f := .glo "check_hangings") rfl)) rfl F (fun _ _ _ _ _ _ => ⟨rfl, rfl, rfl, rfl, rfl, rfl⟩) (fun _ _ _ _ _ _ us hl => match us, hl with | [_, _], _ => rfl)
theorem fg39 (t : Told w K mg base h0) (g : Gx (Sg K) Bt φ lv Pg w K mg base) : FnG (Sg K) Pg w K mg base (arK 2 (runB finF n_check_hangings (b_check_hangings (φ 38) (φ 31)))) (lv + 1) "check_hangings" ["frames", "hangings"] :=
  let ⟨_, F⟩ := t.c.t.d.def_ 39 rfl; (fnG_of (at_ := ("check_hangings", none)) finF_ok rfl (He.glo_ok t.X t.G (t.c.t.d.fact 39 (f := .glo "check_hangings") rfl)) rfl F sc39 (fun _ _ _ _ _ _ => ⟨rfl, rfl, rfl, rfl, rfl, rfl⟩) (fun _ _ _ _ _ _ us hl => match us, hl with | [_, _], _ => rfl) g (b := fun φ => b_check_hangings (φ 38) (φ 31)) fun cdv A outer s H E hc C => d39 C).ar
theorem sc40 : FnScope n_is_frame ["value"] (defScope (top 73)) := ⟨rfl, rfl, rfl, by decide +kernel, rfl, by decide +kernel, by decide +kernel⟩
theorem fz40 (t : Told w K mg base h0) : FnG (Sg K) Pg w K mg base (fun _ _ => none) lv "is_frame" ["value"] :=
  let ⟨_, F⟩ := t.c.t.d.def_ 40 rfl; fnG_zero (at_ := ("is_frame", none)) rfl (He.glo_ok t.X t.G (t.c.t.d.fact 40 (f := .glo "is_frame") rfl)) rfl F (fun _ _ _ _ _ _ => ⟨rfl, rfl, rfl, rfl, rfl, rfl⟩) (fun _ _ _ _ _ _ us hl => match us, hl with | [_], _ => rfl)
theorem fg40 (t : Told w K mg base h0) (g : Gx (Sg K) Bt φ lv Pg w K mg base) : FnG (Sg K) Pg w K mg base (arK 1 (runB finF n_is_frame (b_is_frame (φ 26)))) (lv + 1) "is_frame" ["value"] :=
  let ⟨_, F⟩ := t.c.t.d.def_ 40 rfl; (fnG_of (at_ := ("is_frame", none)) finF_ok rfl (He.glo_ok t.X t.G (t.c.t.d.fact 40 (f := .glo "is_frame") rfl)) rfl F sc40 (fun _ _ _ _ _ _ => ⟨rfl, rfl, rfl, rfl, rfl, rfl⟩) (fun _ _ _ _ _ _ us hl => match us, hl with | [_], _ => rfl) g (b := fun φ => b_is_frame (φ 26)) fun cdv A outer s H E hc C => d40 C).ar
theorem sc41 : FnScope n_hanging_leaf ["frame", "post", "side"] (defScope (top 74)) := ⟨rfl, rfl, rfl, by decide +kernel, rfl, by decide +kernel, by decide +kernel⟩
theorem fz41 (t : Told w K mg base h0) : FnG (Sg K) Pg w K mg base (fun _ _ => none) lv "hanging_leaf" ["frame", "post", "side"] :=
  let ⟨_, F⟩ := t.c.t.d.def_ 41 rfl; fnG_zero (at_ := ("hanging_leaf", none)) rfl (He.glo_ok t.X t.G (t.c.t.d.fact 41 (f := .glo "hanging_leaf") rfl)) rfl F (fun _ _ _ _ _ _ => ⟨rfl, rfl, rfl, rfl, rfl, rfl⟩) (fun _ _ _ _ _ _ us hl => match us, hl with | [_, _, _], _ => rfl)
theorem fg41 (t : Told w K mg base h0) (g : Gx (Sg K) Bt φ lv Pg w K mg base) : FnG (Sg K) Pg w K mg base (arK 3 (runB finF n_hanging_leaf (b_hanging_leaf (φ 36) (φ 37) (φ 23) (φ 33)))) (lv + 1) "hanging_leaf" ["frame", "post", "side"] :=
  let ⟨_, F⟩ := t.c.t.d.def_ 41 rfl; (fnG_of (at_ := ("hanging_leaf", none)) finF_ok rfl (He.glo_ok t.X t.G (t.c.t.d.fact 41 (f := .glo "hanging_leaf") rfl)) rfl F sc41 (fun _ _ _ _ _ _ => ⟨rfl, rfl, rfl, rfl, rfl, rfl⟩) (fun _ _ _ _ _ _ us hl => match us, hl with | [_, _, _], _ => rfl) g (b := fun φ => b_hanging_leaf (φ 36) (φ 37) (φ 23) (φ 33)) fun cdv A outer s H E hc C => d41 C).ar
theorem sc42 : FnScope n_frames_house ["frames", "hangings"] (defScope (top 75)) := ⟨rfl, rfl, rfl, by decide +kernel, rfl, by decide +kernel, by decide +kernel⟩
theorem fz42 (t : Told w K mg base h0) : FnG (Sg K) Pg w K mg base (fun _ _ => none) lv "frames_house" ["frames", "hangings"] :=
  let ⟨_, F⟩ := t.c.t.d.def_ 42 rfl; fnG_zero (at_ := ("frames_house", none)) rfl (He.glo_ok t.X t.G (t.c.t.d.fact 42 (f := .glo "frames_house") rfl)) rfl F (fun _ _ _ _ _ _ => ⟨rfl, rfl, rfl, rfl, rfl, rfl⟩) (fun _ _ _ _ _ _ us hl => match us, hl with | [_, _], _ => rfl)
theorem fg42 (t : Told w K mg base h0) (g : Gx (Sg K) Bt φ lv Pg w K mg base) : FnG (Sg K) Pg w K mg base (arK 2 (runB finF n_frames_house (b_frames_house (φ 39) (φ 35)))) (lv + 1) "frames_house" ["frames", "hangings"] :=
  let ⟨_, F⟩ := t.c.t.d.def_ 42 rfl; (fnG_of (at_ := ("frames_house", none)) finF_ok rfl (He.glo_ok t.X t.G (t.c.t.d.fact 42 (f := .glo "frames_house") rfl)) rfl F sc42 (fun _ _ _ _ _ _ => ⟨rfl, rfl, rfl, rfl, rfl, rfl⟩) (fun _ _ _ _ _ _ us hl => match us, hl with | [_, _], _ => rfl) g (b := fun φ => b_frames_house (φ 39) (φ 35)) fun cdv A outer s H E hc C => d42 C).ar
theorem sc43 : FnScope n_is_house ["value"] (defScope (top 77)) := ⟨rfl, rfl, rfl, by decide +kernel, rfl, by decide +kernel, by decide +kernel⟩
theorem fz43 (t : Told w K mg base h0) : FnG (Sg K) Pg w K mg base (fun _ _ => none) lv "is_house" ["value"] :=
  let ⟨_, F⟩ := t.c.t.d.def_ 43 rfl; fnG_zero (at_ := ("is_house", none)) rfl (He.glo_ok t.X t.G (t.c.t.d.fact 43 (f := .glo "is_house") rfl)) rfl F (fun _ _ _ _ _ _ => ⟨rfl, rfl, rfl, rfl, rfl, rfl⟩) (fun _ _ _ _ _ _ us hl => match us, hl with | [_], _ => rfl)
theorem fg43 (t : Told w K mg base h0) (g : Gx (Sg K) Bt φ lv Pg w K mg base) : FnG (Sg K) Pg w K mg base (arK 1 (runB finF n_is_house (b_is_house (φ 21)))) (lv + 1) "is_house" ["value"] :=
  let ⟨_, F⟩ := t.c.t.d.def_ 43 rfl; (fnG_of (at_ := ("is_house", none)) finF_ok rfl (He.glo_ok t.X t.G (t.c.t.d.fact 43 (f := .glo "is_house") rfl)) rfl F sc43 (fun _ _ _ _ _ _ => ⟨rfl, rfl, rfl, rfl, rfl, rfl⟩) (fun _ _ _ _ _ _ us hl => match us, hl with | [_], _ => rfl) g (b := fun φ => b_is_house (φ 21)) fun cdv A outer s H E hc C => d43 C).ar
theorem sc44 : FnScope n_names_of ["house"] (defScope (top 78)) := ⟨rfl, rfl, rfl, by decide +kernel, rfl, by decide +kernel, by decide +kernel⟩
theorem fz44 (t : Told w K mg base h0) : FnG (Sg K) Pg w K mg base (fun _ _ => none) lv "names_of" ["house"] :=
  let ⟨_, F⟩ := t.c.t.d.def_ 44 rfl; fnG_zero (at_ := ("names_of", none)) rfl (He.glo_ok t.X t.G (t.c.t.d.fact 44 (f := .glo "names_of") rfl)) rfl F (fun _ _ _ _ _ _ => ⟨rfl, rfl, rfl, rfl, rfl, rfl⟩) (fun _ _ _ _ _ _ us hl => match us, hl with | [_], _ => rfl)
theorem fg44 (t : Told w K mg base h0) (g : Gx (Sg K) Bt φ lv Pg w K mg base) : FnG (Sg K) Pg w K mg base (arK 1 (runB finF n_names_of (b_names_of (φ 24) (φ 22)))) (lv + 1) "names_of" ["house"] :=
  let ⟨_, F⟩ := t.c.t.d.def_ 44 rfl; (fnG_of (at_ := ("names_of", none)) finF_ok rfl (He.glo_ok t.X t.G (t.c.t.d.fact 44 (f := .glo "names_of") rfl)) rfl F sc44 (fun _ _ _ _ _ _ => ⟨rfl, rfl, rfl, rfl, rfl, rfl⟩) (fun _ _ _ _ _ _ us hl => match us, hl with | [_], _ => rfl) g (b := fun φ => b_names_of (φ 24) (φ 22)) fun cdv A outer s H E hc C => d44 C).ar
theorem sc45 : FnScope n_is_leaf ["value"] (defScope (top 80)) := ⟨rfl, rfl, rfl, by decide +kernel, rfl, by decide +kernel, by decide +kernel⟩
theorem fz45 (t : Told w K mg base h0) : FnG (Sg K) Pg w K mg base (fun _ _ => none) lv "is_leaf" ["value"] :=
  let ⟨_, F⟩ := t.c.t.d.def_ 45 rfl; fnG_zero (at_ := ("is_leaf", none)) rfl (He.glo_ok t.X t.G (t.c.t.d.fact 45 (f := .glo "is_leaf") rfl)) rfl F (fun _ _ _ _ _ _ => ⟨rfl, rfl, rfl, rfl, rfl, rfl⟩) (fun _ _ _ _ _ _ us hl => match us, hl with | [_], _ => rfl)
theorem fg45 (t : Told w K mg base h0) (g : Gx (Sg K) Bt φ lv Pg w K mg base) : FnG (Sg K) Pg w K mg base (arK 1 (runB finF n_is_leaf (b_is_leaf (φ 15)))) (lv + 1) "is_leaf" ["value"] :=
  let ⟨_, F⟩ := t.c.t.d.def_ 45 rfl; (fnG_of (at_ := ("is_leaf", none)) finF_ok rfl (He.glo_ok t.X t.G (t.c.t.d.fact 45 (f := .glo "is_leaf") rfl)) rfl F sc45 (fun _ _ _ _ _ _ => ⟨rfl, rfl, rfl, rfl, rfl, rfl⟩) (fun _ _ _ _ _ _ us hl => match us, hl with | [_], _ => rfl) g (b := fun φ => b_is_leaf (φ 15)) fun cdv A outer s H E hc C => d45 C).ar
theorem sc46 : FnScope n__law_well ["script", "lap"] (defScope (top 82)) := ⟨rfl, rfl, rfl, by decide +kernel, rfl, by decide +kernel, by decide +kernel⟩
theorem fz46 (t : Told w K mg base h0) : FnG (Sg K) Pg w K mg base (fun _ _ => none) lv "_law_well" ["script", "lap"] :=
  let ⟨_, F⟩ := t.c.t.d.def_ 46 rfl; fnG_zero (at_ := ("_law_well", none)) rfl (He.glo_ok t.X t.G (t.c.t.d.fact 46 (f := .glo "_law_well") rfl)) rfl F (fun _ _ _ _ _ _ => ⟨rfl, rfl, rfl, rfl, rfl, rfl⟩) (fun _ _ _ _ _ _ us hl => match us, hl with | [_, _], _ => rfl)
theorem fg46 (t : Told w K mg base h0) (g : Gx (Sg K) Bt φ lv Pg w K mg base) : FnG (Sg K) Pg w K mg base (arK 2 (runB finC n__law_well (b__law_well))) (lv + 1) "_law_well" ["script", "lap"] :=
  let ⟨_, F⟩ := t.c.t.d.def_ 46 rfl; (fnG_of (at_ := ("_law_well", none)) finC_ok rfl (He.glo_ok t.X t.G (t.c.t.d.fact 46 (f := .glo "_law_well") rfl)) rfl F sc46 (fun _ _ _ _ _ _ => ⟨rfl, rfl, rfl, rfl, rfl, rfl⟩) (fun _ _ _ _ _ _ us hl => match us, hl with | [_, _], _ => rfl) g (b := fun φ => b__law_well) fun cdv A outer s H E hc C => d46 C).ar
theorem sc47 : FnScope n__law_draw ["well", "limit"] (defScope (top 83)) := ⟨rfl, rfl, rfl, by decide +kernel, rfl, by decide +kernel, by decide +kernel⟩
theorem fz47 (t : Told w K mg base h0) : FnG (Sg K) Pg w K mg base (fun _ _ => none) lv "_law_draw" ["well", "limit"] :=
  let ⟨_, F⟩ := t.c.t.d.def_ 47 rfl; fnG_zero (at_ := ("_law_draw", none)) rfl (He.glo_ok t.X t.G (t.c.t.d.fact 47 (f := .glo "_law_draw") rfl)) rfl F (fun _ _ _ _ _ _ => ⟨rfl, rfl, rfl, rfl, rfl, rfl⟩) (fun _ _ _ _ _ _ us hl => match us, hl with | [_, _], _ => rfl)
theorem fg47 (t : Told w K mg base h0) (g : Gx (Sg K) Bt φ lv Pg w K mg base) : FnG (Sg K) Pg w K mg base (arK 2 (runB finF n__law_draw (b__law_draw))) (lv + 1) "_law_draw" ["well", "limit"] :=
  let ⟨_, F⟩ := t.c.t.d.def_ 47 rfl; (fnG_of (at_ := ("_law_draw", none)) finF_ok rfl (He.glo_ok t.X t.G (t.c.t.d.fact 47 (f := .glo "_law_draw") rfl)) rfl F sc47 (fun _ _ _ _ _ _ => ⟨rfl, rfl, rfl, rfl, rfl, rfl⟩) (fun _ _ _ _ _ _ us hl => match us, hl with | [_, _], _ => rfl) g (b := fun φ => b__law_draw) fun cdv A outer s H E hc C => d47 C).ar
theorem sc48 : FnScope n__law_of ["well", "some"] (defScope (top 84)) := ⟨rfl, rfl, rfl, by decide +kernel, rfl, by decide +kernel, by decide +kernel⟩
theorem fz48 (t : Told w K mg base h0) : FnG (Sg K) Pg w K mg base (fun _ _ => none) lv "_law_of" ["well", "some"] :=
  let ⟨_, F⟩ := t.c.t.d.def_ 48 rfl; fnG_zero (at_ := ("_law_of", none)) rfl (He.glo_ok t.X t.G (t.c.t.d.fact 48 (f := .glo "_law_of") rfl)) rfl F (fun _ _ _ _ _ _ => ⟨rfl, rfl, rfl, rfl, rfl, rfl⟩) (fun _ _ _ _ _ _ us hl => match us, hl with | [_, _], _ => rfl)
theorem fg48 (t : Told w K mg base h0) (g : Gx (Sg K) Bt φ lv Pg w K mg base) : FnG (Sg K) Pg w K mg base (arK 2 (runB finF n__law_of (b__law_of (φ 47)))) (lv + 1) "_law_of" ["well", "some"] :=
  let ⟨_, F⟩ := t.c.t.d.def_ 48 rfl; (fnG_of (at_ := ("_law_of", none)) finF_ok rfl (He.glo_ok t.X t.G (t.c.t.d.fact 48 (f := .glo "_law_of") rfl)) rfl F sc48 (fun _ _ _ _ _ _ => ⟨rfl, rfl, rfl, rfl, rfl, rfl⟩) (fun _ _ _ _ _ _ us hl => match us, hl with | [_, _], _ => rfl) g (b := fun φ => b__law_of (φ 47)) fun cdv A outer s H E hc C => d48 C).ar
theorem sc49 : FnScope n__law_same ["one", "two"] (defScope (top 85)) := ⟨rfl, rfl, rfl, by decide +kernel, rfl, by decide +kernel, by decide +kernel⟩
theorem fz49 (t : Told w K mg base h0) : FnG (Sg K) Pg w K mg base (fun _ _ => none) lv "_law_same" ["one", "two"] :=
  let ⟨_, F⟩ := t.c.t.d.def_ 49 rfl; fnG_zero (at_ := ("_law_same", none)) rfl (He.glo_ok t.X t.G (t.c.t.d.fact 49 (f := .glo "_law_same") rfl)) rfl F (fun _ _ _ _ _ _ => ⟨rfl, rfl, rfl, rfl, rfl, rfl⟩) (fun _ _ _ _ _ _ us hl => match us, hl with | [_, _], _ => rfl)
theorem fg49 (t : Told w K mg base h0) (g : Gx (Sg K) Bt φ lv Pg w K mg base) : FnG (Sg K) Pg w K mg base (arK 2 (runB finF n__law_same (b__law_same (φ 49)))) (lv + 1) "_law_same" ["one", "two"] :=
  let ⟨_, F⟩ := t.c.t.d.def_ 49 rfl; (fnG_of (at_ := ("_law_same", none)) finF_ok rfl (He.glo_ok t.X t.G (t.c.t.d.fact 49 (f := .glo "_law_same") rfl)) rfl F sc49 (fun _ _ _ _ _ _ => ⟨rfl, rfl, rfl, rfl, rfl, rfl⟩) (fun _ _ _ _ _ _ us hl => match us, hl with | [_, _], _ => rfl) g (b := fun φ => b__law_same (φ 49)) fun cdv A outer s H E hc C => d49 C).ar
theorem sc50 : FnScope n__law_names ["well", "many"] (defScope (top 86)) := ⟨rfl, rfl, rfl, by decide +kernel, rfl, by decide +kernel, by decide +kernel⟩
theorem fz50 (t : Told w K mg base h0) : FnG (Sg K) Pg w K mg base (fun _ _ => none) lv "_law_names" ["well", "many"] :=
  let ⟨_, F⟩ := t.c.t.d.def_ 50 rfl; fnG_zero (at_ := ("_law_names", none)) rfl (He.glo_ok t.X t.G (t.c.t.d.fact 50 (f := .glo "_law_names") rfl)) rfl F (fun _ _ _ _ _ _ => ⟨rfl, rfl, rfl, rfl, rfl, rfl⟩) (fun _ _ _ _ _ _ us hl => match us, hl with | [_, _], _ => rfl)
theorem fg50 (t : Told w K mg base h0) (g : Gx (Sg K) Bt φ lv Pg w K mg base) : FnG (Sg K) Pg w K mg base (arK 2 (runB finF n__law_names (b__law_names (φ 48)))) (lv + 1) "_law_names" ["well", "many"] :=
  let ⟨_, F⟩ := t.c.t.d.def_ 50 rfl; (fnG_of (at_ := ("_law_names", none)) finF_ok rfl (He.glo_ok t.X t.G (t.c.t.d.fact 50 (f := .glo "_law_names") rfl)) rfl F sc50 (fun _ _ _ _ _ _ => ⟨rfl, rfl, rfl, rfl, rfl, rfl⟩) (fun _ _ _ _ _ _ us hl => match us, hl with | [_, _], _ => rfl) g (b := fun φ => b__law_names (φ 48)) fun cdv A outer s H E hc C => d50 C).ar
theorem sc51 : FnScope n__law_frames ["well", "most"] (defScope (top 87)) := ⟨rfl, rfl, rfl, by decide +kernel, rfl, by decide +kernel, by decide +kernel⟩
theorem fz51 (t : Told w K mg base h0) : FnG (Sg K) Pg w K mg base (fun _ _ => none) lv "_law_frames" ["well", "most"] :=
  let ⟨_, F⟩ := t.c.t.d.def_ 51 rfl; fnG_zero (at_ := ("_law_frames", none)) rfl (He.glo_ok t.X t.G (t.c.t.d.fact 51 (f := .glo "_law_frames") rfl)) rfl F (fun _ _ _ _ _ _ => ⟨rfl, rfl, rfl, rfl, rfl, rfl⟩) (fun _ _ _ _ _ _ us hl => match us, hl with | [_, _], _ => rfl)
theorem fg51 (t : Told w K mg base h0) (g : Gx (Sg K) Bt φ lv Pg w K mg base) : FnG (Sg K) Pg w K mg base (arK 2 (runB finF n__law_frames (b__law_frames (φ 48) (φ 47) (φ 50) (φ 52)))) (lv + 1) "_law_frames" ["well", "most"] :=
  let ⟨_, F⟩ := t.c.t.d.def_ 51 rfl; (fnG_of (at_ := ("_law_frames", none)) finF_ok rfl (He.glo_ok t.X t.G (t.c.t.d.fact 51 (f := .glo "_law_frames") rfl)) rfl F sc51 (fun _ _ _ _ _ _ => ⟨rfl, rfl, rfl, rfl, rfl, rfl⟩) (fun _ _ _ _ _ _ us hl => match us, hl with | [_, _], _ => rfl) g (b := fun φ => b__law_frames (φ 48) (φ 47) (φ 50) (φ 52)) fun cdv A outer s H E hc C => d51 C).ar
theorem sc52 : FnScope n__law_touch ["one", "two"] (defScope (top 88)) := ⟨rfl, rfl, rfl, by decide +kernel, rfl, by decide +kernel, by decide +kernel⟩
theorem fz52 (t : Told w K mg base h0) : FnG (Sg K) Pg w K mg base (fun _ _ => none) lv "_law_touch" ["one", "two"] :=
  let ⟨_, F⟩ := t.c.t.d.def_ 52 rfl; fnG_zero (at_ := ("_law_touch", none)) rfl (He.glo_ok t.X t.G (t.c.t.d.fact 52 (f := .glo "_law_touch") rfl)) rfl F (fun _ _ _ _ _ _ => ⟨rfl, rfl, rfl, rfl, rfl, rfl⟩) (fun _ _ _ _ _ _ us hl => match us, hl with | [_, _], _ => rfl)
theorem fg52 (t : Told w K mg base h0) (g : Gx (Sg K) Bt φ lv Pg w K mg base) : FnG (Sg K) Pg w K mg base (arK 2 (runB finF n__law_touch (b__law_touch))) (lv + 1) "_law_touch" ["one", "two"] :=
  let ⟨_, F⟩ := t.c.t.d.def_ 52 rfl; (fnG_of (at_ := ("_law_touch", none)) finF_ok rfl (He.glo_ok t.X t.G (t.c.t.d.fact 52 (f := .glo "_law_touch") rfl)) rfl F sc52 (fun _ _ _ _ _ _ => ⟨rfl, rfl, rfl, rfl, rfl, rfl⟩) (fun _ _ _ _ _ _ us hl => match us, hl with | [_, _], _ => rfl) g (b := fun φ => b__law_touch) fun cdv A outer s H E hc C => d52 C).ar
theorem sc53 : FnScope n__law_hung ["frame", "hanging"] (defScope (top 89)) := ⟨rfl, rfl, rfl, by decide +kernel, rfl, by decide +kernel, by decide +kernel⟩
theorem fz53 (t : Told w K mg base h0) : FnG (Sg K) Pg w K mg base (fun _ _ => none) lv "_law_hung" ["frame", "hanging"] :=
  let ⟨_, F⟩ := t.c.t.d.def_ 53 rfl; fnG_zero (at_ := ("_law_hung", none)) rfl (He.glo_ok t.X t.G (t.c.t.d.fact 53 (f := .glo "_law_hung") rfl)) rfl F (fun _ _ _ _ _ _ => ⟨rfl, rfl, rfl, rfl, rfl, rfl⟩) (fun _ _ _ _ _ _ us hl => match us, hl with | [_, _], _ => rfl)
theorem fg53 (t : Told w K mg base h0) (g : Gx (Sg K) Bt φ lv Pg w K mg base) : FnG (Sg K) Pg w K mg base (arK 2 (runB finF n__law_hung (b__law_hung))) (lv + 1) "_law_hung" ["frame", "hanging"] :=
  let ⟨_, F⟩ := t.c.t.d.def_ 53 rfl; (fnG_of (at_ := ("_law_hung", none)) finF_ok rfl (He.glo_ok t.X t.G (t.c.t.d.fact 53 (f := .glo "_law_hung") rfl)) rfl F sc53 (fun _ _ _ _ _ _ => ⟨rfl, rfl, rfl, rfl, rfl, rfl⟩) (fun _ _ _ _ _ _ us hl => match us, hl with | [_, _], _ => rfl) g (b := fun φ => b__law_hung) fun cdv A outer s H E hc C => d53 C).ar
theorem sc54 : FnScope n__law_hangings [] (defScope (top 90)) := ⟨rfl, rfl, rfl, by decide +kernel, rfl, by decide +kernel, by decide +kernel⟩
theorem fz54 (t : Told w K mg base h0) : FnG (Sg K) Pg w K mg base (fun _ _ => none) lv "_law_hangings" [] :=
  let ⟨_, F⟩ := t.c.t.d.def_ 54 rfl; fnG_zero (at_ := ("_law_hangings", none)) rfl (He.glo_ok t.X t.G (t.c.t.d.fact 54 (f := .glo "_law_hangings") rfl)) rfl F (fun _ _ _ _ _ _ => ⟨rfl, rfl, rfl, rfl, rfl, rfl⟩) (fun _ _ _ _ _ _ us hl => match us, hl with | [], _ => rfl)
theorem fg54 (t : Told w K mg base h0) (g : Gx (Sg K) Bt φ lv Pg w K mg base) : FnG (Sg K) Pg w K mg base (arK 0 (runB finF n__law_hangings (b__law_hangings))) (lv + 1) "_law_hangings" [] :=
  let ⟨_, F⟩ := t.c.t.d.def_ 54 rfl; (fnG_of (at_ := ("_law_hangings", none)) finF_ok rfl (He.glo_ok t.X t.G (t.c.t.d.fact 54 (f := .glo "_law_hangings") rfl)) rfl F sc54 (fun _ _ _ _ _ _ => ⟨rfl, rfl, rfl, rfl, rfl, rfl⟩) (fun _ _ _ _ _ _ us hl => match us, hl with | [], _ => rfl) g (b := fun φ => b__law_hangings) fun cdv A outer s H E hc C => d54 C).ar
theorem sc55 : FnScope n__law_choices ["well", "frames"] (defScope (top 91)) := ⟨rfl, rfl, rfl, by decide +kernel, rfl, by decide +kernel, by decide +kernel⟩
theorem fz55 (t : Told w K mg base h0) : FnG (Sg K) Pg w K mg base (fun _ _ => none) lv "_law_choices" ["well", "frames"] :=
  let ⟨_, F⟩ := t.c.t.d.def_ 55 rfl; fnG_zero (at_ := ("_law_choices", none)) rfl (He.glo_ok t.X t.G (t.c.t.d.fact 55 (f := .glo "_law_choices") rfl)) rfl F (fun _ _ _ _ _ _ => ⟨rfl, rfl, rfl, rfl, rfl, rfl⟩) (fun _ _ _ _ _ _ us hl => match us, hl with | [_, _], _ => rfl)
theorem fg55 (t : Told w K mg base h0) (g : Gx (Sg K) Bt φ lv Pg w K mg base) : FnG (Sg K) Pg w K mg base (arK 2 (runB finF n__law_choices (b__law_choices (φ 54) (φ 48)))) (lv + 1) "_law_choices" ["well", "frames"] :=
  let ⟨_, F⟩ := t.c.t.d.def_ 55 rfl; (fnG_of (at_ := ("_law_choices", none)) finF_ok rfl (He.glo_ok t.X t.G (t.c.t.d.fact 55 (f := .glo "_law_choices") rfl)) rfl F sc55 (fun _ _ _ _ _ _ => ⟨rfl, rfl, rfl, rfl, rfl, rfl⟩) (fun _ _ _ _ _ _ us hl => match us, hl with | [_, _], _ => rfl) g (b := fun φ => b__law_choices (φ 54) (φ 48)) fun cdv A outer s H E hc C => d55 C).ar
theorem sc56 : FnScope n__law_near ["well", "frame"] (defScope (top 92)) := ⟨rfl, rfl, rfl, by decide +kernel, rfl, by decide +kernel, by decide +kernel⟩
theorem fz56 (t : Told w K mg base h0) : FnG (Sg K) Pg w K mg base (fun _ _ => none) lv "_law_near" ["well", "frame"] :=
  let ⟨_, F⟩ := t.c.t.d.def_ 56 rfl; fnG_zero (at_ := ("_law_near", none)) rfl (He.glo_ok t.X t.G (t.c.t.d.fact 56 (f := .glo "_law_near") rfl)) rfl F (fun _ _ _ _ _ _ => ⟨rfl, rfl, rfl, rfl, rfl, rfl⟩) (fun _ _ _ _ _ _ us hl => match us, hl with | [_, _], _ => rfl)
theorem fg56 (t : Told w K mg base h0) (g : Gx (Sg K) Bt φ lv Pg w K mg base) : FnG (Sg K) Pg w K mg base (arK 2 (runB finF n__law_near (b__law_near (φ 48)))) (lv + 1) "_law_near" ["well", "frame"] :=
  let ⟨_, F⟩ := t.c.t.d.def_ 56 rfl; (fnG_of (at_ := ("_law_near", none)) finF_ok rfl (He.glo_ok t.X t.G (t.c.t.d.fact 56 (f := .glo "_law_near") rfl)) rfl F sc56 (fun _ _ _ _ _ _ => ⟨rfl, rfl, rfl, rfl, rfl, rfl⟩) (fun _ _ _ _ _ _ us hl => match us, hl with | [_, _], _ => rfl) g (b := fun φ => b__law_near (φ 48)) fun cdv A outer s H E hc C => d56 C).ar
theorem sc57 : FnScope n__law_right ["well"] (defScope (top 93)) := ⟨rfl, rfl, rfl, by decide +kernel, rfl, by decide +kernel, by decide +kernel⟩
theorem fz57 (t : Told w K mg base h0) : FnG (Sg K) Pg w K mg base (fun _ _ => none) lv "_law_right" ["well"] :=
  let ⟨_, F⟩ := t.c.t.d.def_ 57 rfl; fnG_zero (at_ := ("_law_right", none)) rfl (He.glo_ok t.X t.G (t.c.t.d.fact 57 (f := .glo "_law_right") rfl)) rfl F (fun _ _ _ _ _ _ => ⟨rfl, rfl, rfl, rfl, rfl, rfl⟩) (fun _ _ _ _ _ _ us hl => match us, hl with | [_], _ => rfl)
theorem fg57 (t : Told w K mg base h0) (g : Gx (Sg K) Bt φ lv Pg w K mg base) : FnG (Sg K) Pg w K mg base (arK 1 (runB finF n__law_right (b__law_right (φ 51) (φ 55) (φ 53) (φ 41) (φ 45) (φ 49) (φ 56) (φ 40) (φ 42) (φ 44) (φ 43)))) (lv + 1) "_law_right" ["well"] :=
  let ⟨_, F⟩ := t.c.t.d.def_ 57 rfl; (fnG_of (at_ := ("_law_right", none)) finF_ok rfl (He.glo_ok t.X t.G (t.c.t.d.fact 57 (f := .glo "_law_right") rfl)) rfl F sc57 (fun _ _ _ _ _ _ => ⟨rfl, rfl, rfl, rfl, rfl, rfl⟩) (fun _ _ _ _ _ _ us hl => match us, hl with | [_], _ => rfl) g (b := fun φ => b__law_right (φ 51) (φ 55) (φ 53) (φ 41) (φ 45) (φ 49) (φ 56) (φ 40) (φ 42) (φ 44) (φ 43)) fun cdv A outer s H E hc C => d57 C).ar
theorem sc58 : FnScope n_law ["script"] (defScope (top 94)) := ⟨rfl, rfl, rfl, by decide +kernel, rfl, by decide +kernel, by decide +kernel⟩
theorem fz58 (t : Told w K mg base h0) : FnG (Sg K) Pg w K mg base (fun _ _ => none) lv "law" ["script"] :=
  let ⟨_, F⟩ := t.c.t.d.def_ 58 rfl; fnG_zero (at_ := ("law", none)) rfl (He.glo_ok t.X t.G (t.c.t.d.fact 58 (f := .glo "law") rfl)) rfl F (fun _ _ _ _ _ _ => ⟨rfl, rfl, rfl, rfl, rfl, rfl⟩) (fun _ _ _ _ _ _ us hl => match us, hl with | [_], _ => rfl)
theorem fg58 (t : Told w K mg base h0) (g : Gx (Sg K) Bt φ lv Pg w K mg base) : FnG (Sg K) Pg w K mg base (arK 1 (runB finF n_law (b_law (φ 46) (φ 57)))) (lv + 1) "law" ["script"] :=
  let ⟨_, F⟩ := t.c.t.d.def_ 58 rfl; (fnG_of (at_ := ("law", none)) finF_ok rfl (He.glo_ok t.X t.G (t.c.t.d.fact 58 (f := .glo "law") rfl)) rfl F sc58 (fun _ _ _ _ _ _ => ⟨rfl, rfl, rfl, rfl, rfl, rfl⟩) (fun _ _ _ _ _ _ us hl => match us, hl with | [_], _ => rfl) g (b := fun φ => b_law (φ 46) (φ 57)) fun cdv A outer s H E hc C => d58 C).ar
theorem fl0 (g : Gx (Sg K) Bt φ lv Pg w K mg base) : FvOk (Sg K) Pg w K mg base (lv + 1) 59 (runL finF n_wrong_walls_lam0 2 (e_wrong_walls_lam0 (φ 6) (φ 18))) :=
  fvL_of finF_ok lam0 59 (ps := ["each", "before"]) (fun H v h => by have h : Fv K 59 H v := h; simpa [Fv] using h) (NdefX.nscope_by (by decide +kernel)) (fun _ _ _ _ us hl => match us, hl with | [_, _], _ => rfl) g (el := fun φ => e_wrong_walls_lam0 (φ 6) (φ 18)) fun C => dl0 C
theorem fl1 (g : Gx (Sg K) Bt φ lv Pg w K mg base) : FvOk (Sg K) Pg w K mg base (lv + 1) 60 (runL finF n_wrong_hangings_lam0 2 (e_wrong_hangings_lam0 (φ 30))) :=
  fvL_of finF_ok lam1 60 (ps := ["each", "before"]) (fun H v h => by have h : Fv K 60 H v := h; simpa [Fv] using h) (NdefX.nscope_by (by decide +kernel)) (fun _ _ _ _ us hl => match us, hl with | [_, _], _ => rfl) g (el := fun φ => e_wrong_hangings_lam0 (φ 30)) fun C => dl1 C
theorem ctAll (t : Told w K mg base h0) : AllE (fun _ (p : Str × D) => CstOk (Sg K) mg p.1 p.2) 0 Bt.cst := ⟨cst_str t.X t.G (t.c.t.d.fact 79 (f := .str "LETTERS" "abcdefghijklmnopqrstuvwxyz") rfl), cst_int t.X t.G (t.c.t.d.fact 80 (f := .int "MOST_IN_NAME" (8)) rfl), cst_tup rfl t.X t.G (t.c.t.d.fact 81 (f := .glo "WORDS") rfl) (ex_0 t.c.more) (fun w => DVs.cons dvStr (DVs.cons dvStr (DVs.cons dvStr (DVs.cons dvStr (DVs.cons dvStr (DVs.cons dvStr (DVs.cons dvStr (DVs.cons dvStr (DVs.cons dvStr (DVs.cons dvStr (DVs.cons dvStr (DVs.cons dvStr (DVs.cons dvStr (DVs.cons dvStr (DVs.cons dvStr (DVs.cons dvStr (DVs.cons dvStr (DVs.cons dvStr (DVs.cons dvStr (DVs.cons dvStr (DVs.cons dvStr (DVs.cons dvStr (DVs.cons dvStr (DVs.cons dvStr (DVs.cons dvStr (DVs.cons dvStr (DVs.cons dvStr (DVs.nil)))))))))))))))))))))))))))), cst_int t.X t.G (t.c.t.d.fact 82 (f := .int "MOST_STEP" (9)) rfl), cst_str t.X t.G (t.c.t.d.fact 83 (f := .str "LEFT" "left") rfl), cst_str t.X t.G (t.c.t.d.fact 84 (f := .str "RIGHT" "right") rfl), cst_tup rfl t.X t.G (t.c.t.d.fact 85 (f := .glo "TURNS") rfl) (ex_1 t.c.more) (fun w => DVs.cons dvStr (DVs.cons dvStr (DVs.nil))), cst_int t.X t.G (t.c.t.d.fact 86 (f := .int "MOST_PLACE" (199)) rfl), cst_int t.X t.G (t.c.t.d.fact 87 (f := .int "MOST_LONG" (99)) rfl), cst_int t.X t.G (t.c.t.d.fact 88 (f := .int "MOST_LEAVES" (7)) rfl), cst_int t.X t.G (t.c.t.d.fact 89 (f := .int "MOST_WALLS" (8)) rfl), cst_str t.X t.G (t.c.t.d.fact 90 (f := .str "FIRST" "first") rfl), cst_str t.X t.G (t.c.t.d.fact 91 (f := .str "SECOND" "second") rfl), cst_tup rfl t.X t.G (t.c.t.d.fact 92 (f := .glo "POSTS") rfl) (ex_2 t.c.more) (fun w => DVs.cons dvStr (DVs.cons dvStr (DVs.nil))), cst_int t.X t.G (t.c.t.d.fact 93 (f := .int "MOST_FRAMES" (6)) rfl), cst_int t.X t.G (t.c.t.d.fact 94 (f := .int "LEAST_WIDE" (2)) rfl), cst_int t.X t.G (t.c.t.d.fact 95 (f := .int "MOST_WIDE" (100)) rfl), cst_fn t.X t.G (t.c.t.d.fact 19 (f := .glo "is_next_leaf") rfl) (fun H => by show Fv K 19 H _; simp [Fv]), cst_fn t.X t.G (t.c.t.d.fact 28 (f := .glo "is_next_frame") rfl) (fun H => by show Fv K 28 H _; simp [Fv]), trivial⟩
theorem biAll (t : Told w K mg base h0) : AllE (fun _ (p : Str × String) => mg p.1 = some (.builtin p.2)) 0 Bt.bis := ⟨bis_ok t.X t.G (ex_3 t.c.more), trivial⟩
theorem gxOf (t : Told w K mg base h0) {ψ : Fns} (hf : AllE (fun k (p : Str × List Str) => FnG (Sg K) Pg w K mg base (ψ k) lv p.1 p.2) 0 Bt.fns) (hv : ∀ k, FvOk (Sg K) Pg w K mg base lv k (ψ k)) : Gx (Sg K) Bt ψ lv Pg w K mg base where
  hK := rfl
  blt := t.blt
  fn := fun i nm ps h => allE_get0 (x := (nm, ps)) hf h
  ct := fun i nm d h => allE_get0 (x := (nm, d)) (ctAll t) h
  bi := fun i nm id h => allE_get0 (x := (nm, id)) (biAll t) h
  fv := hv
theorem fAll0 (t : Told w K mg base h0) : AllE (fun _ (p : Str × List Str) => FnG (Sg K) Pg w K mg base (fun _ _ => none) lv p.1 p.2) 0 Bt.fns := ⟨fz0 t, fz1 t, fz2 t, fz3 t, fz4 t, fz5 t, fz6 t, fz7 t, fz8 t, fz9 t, fz10 t, fz11 t, fz12 t, fz13 t, fz14 t, fz15 t, fz16 t, fz17 t, fz18 t, fz19 t, fz20 t, fz21 t, fz22 t, fz23 t, fz24 t, fz25 t, fz26 t, fz27 t, fz28 t, fz29 t, fz30 t, fz31 t, fz32 t, fz33 t, fz34 t, fz35 t, fz36 t, fz37 t, fz38 t, fz39 t, fz40 t, fz41 t, fz42 t, fz43 t, fz44 t, fz45 t, fz46 t, fz47 t, fz48 t, fz49 t, fz50 t, fz51 t, fz52 t, fz53 t, fz54 t, fz55 t, fz56 t, fz57 t, fz58 t, trivial⟩
theorem fAll (t : Told w K mg base h0) (g : Gx (Sg K) Bt φ lv Pg w K mg base) : AllE (fun k (p : Str × List Str) => FnG (Sg K) Pg w K mg base (stepF φ k) (lv + 1) p.1 p.2) 0 Bt.fns := ⟨fg0 t g, fg1 t g, fg2 t g, fg3 t g, fg4 t g, fg5 t g, fg6 t g, fg7 t g, fg8 t g, fg9 t g, fg10 t g, fg11 t g, fg12 t g, fg13 t g, fg14 t g, fg15 t g, fg16 t g, fg17 t g, fg18 t g, fg19 t g, fg20 t g, fg21 t g, fg22 t g, fg23 t g, fg24 t g, fg25 t g, fg26 t g, fg27 t g, fg28 t g, fg29 t g, fg30 t g, fg31 t g, fg32 t g, fg33 t g, fg34 t g, fg35 t g, fg36 t g, fg37 t g, fg38 t g, fg39 t g, fg40 t g, fg41 t g, fg42 t g, fg43 t g, fg44 t g, fg45 t g, fg46 t g, fg47 t g, fg48 t g, fg49 t g, fg50 t g, fg51 t g, fg52 t g, fg53 t g, fg54 t g, fg55 t g, fg56 t g, fg57 t g, fg58 t g, trivial⟩
theorem vAll0 (t : Told w K mg base h0) (k : Nat) : FvOk (Sg K) Pg w K mg base lv k (fun _ _ => none) := by
  by_cases h19 : k = 19
  · subst h19; exact fvZ_of (nm := "is_next_leaf") (fun H v h => by have h : Fv K 19 H v := h; exact (show v = .ref (He.ga K "is_next_leaf") from by simpa [Fv] using h)) (fz19 (lv := lv) t)
  by_cases h28 : k = 28
  · subst h28; exact fvZ_of (nm := "is_next_frame") (fun H v h => by have h : Fv K 28 H v := h; exact (show v = .ref (He.ga K "is_next_frame") from by simpa [Fv] using h)) (fz28 (lv := lv) t)
  by_cases h59 : k = 59
  · subst h59; exact fvLZ_of lam0 (fun H v h => by have h : Fv K 59 H v := h; simpa [Fv] using h)
  by_cases h60 : k = 60
  · subst h60; exact fvLZ_of lam1 (fun H v h => by have h : Fv K 60 H v := h; simpa [Fv] using h)
  exact fvN_of fun H v h => by have h : Fv K k H v := h; simp [Fv, h19, h28, h59, h60] at h
theorem vAll (t : Told w K mg base h0) (g : Gx (Sg K) Bt φ lv Pg w K mg base) (k : Nat) : FvOk (Sg K) Pg w K mg base (lv + 1) k (stepF φ k) := by
  by_cases h19 : k = 19
  · subst h19; exact fvG_of (nm := "is_next_leaf") (fun H v h => by have h : Fv K 19 H v := h; exact (show v = .ref (He.ga K "is_next_leaf") from by simpa [Fv] using h)) (fg19 t g) (fun ds c o h => (arK_ok h).1)
  by_cases h28 : k = 28
  · subst h28; exact fvG_of (nm := "is_next_frame") (fun H v h => by have h : Fv K 28 H v := h; exact (show v = .ref (He.ga K "is_next_frame") from by simpa [Fv] using h)) (fg28 t g) (fun ds c o h => (arK_ok h).1)
  by_cases h59 : k = 59
  · subst h59; exact fl0 g
  by_cases h60 : k = 60
  · subst h60; exact fl1 g
  exact fvN_of fun H v h => by have h : Fv K k H v := h; simp [Fv, h19, h28, h59, h60] at h
theorem lev (t : Told w K mg base h0) : ∀ n, Gx (Sg K) Bt (callF n) n Pg w K mg base
  | 0 => gxOf t (fAll0 t) (vAll0 t)
  | n + 1 => gxOf t (fAll t (lev t n)) (vAll t (lev t n))
end
end K59
set_option Elab.async false
set_option linter.all false
set_option maxRecDepth 100000
set_option maxHeartbeats 4000000
namespace K59
open PySem PySem.Spec PyProof.Rows L2 G
/-! ### forms of values -/
def isWhole : D → Bool
  | .int _ => true
  | _ => false
def Sp_is_whole (f : G.FnT) : Prop := ∀ v c, nf v = true → f [v] c = some (.ok (.bl (isWhole v)) c)
theorem sp_is_whole : Sp_is_whole (arK 1 (runB finF n_is_whole b_is_whole)) := fun v c h => by
  refine (arK_eq rfl).trans (run_ret (ret_of ?_))
  have e : isWhole v = (isKi .int v && !isKi .bl v) := by cases v <;> rfl
  rw [e]
  exact pv_and (pv_e1 (pv_var rfl) (isi_of h)) fun _ => pv_not (pv_e1 (pv_var rfl) (isi_of h))
def belowB (lo : Option Int) (i : Int) : Bool := match lo with
  | some l => decide (i < l)
  | none => false
def upToB (hi : Option Int) (i : Int) : Bool := match hi with
  | some h => decide (i ≤ h)
  | none => true
def numB (lo hi : Option Int) : D → Bool
  | .int i => !belowB lo i && upToB hi i
  | _ => false
def oI : Option Int → D
  | some i => .int i
  | none => .non
def Sp_is_number (f : G.FnT) : Prop := ∀ v lo hi c, nf v = true → f [v, oI lo, oI hi] c = some (.ok (.bl (numB lo hi v)) c)
theorem sp_is_number {f_is_whole : G.FnT} (h1 : Sp_is_whole f_is_whole) : Sp_is_number (arK 3 (runB finF n_is_number (b_is_number f_is_whole))) := fun v lo hi c h => by
  refine (arK_eq rfl).trans (run_ret ?_)
  have q1 : Pv (bE (arK 1 f_is_whole) (consA (varE 0) nilA)) (startE n_is_number [v, oI lo, oI hi]) c (.bl (isWhole v)) := pv_call (pv_cons (pv_var rfl) pv_nil) rfl (h1 v c h)
  cases hw : isWhole v with
  | false =>
    have e : numB lo hi v = false := by cases v <;> first | rfl | cases hw
    rw [hw] at q1
    rw [e]
    exact guard_of (a := true) (b := false) (pv_or (b := false) (pv_not q1) (fun z => by cases z)) (fun z => by cases z)
  | true =>
    obtain ⟨i, rfl⟩ : ∃ i, v = .int i := by cases v <;> first | exact ⟨_, rfl⟩ | cases hw
    rw [hw] at q1
    have q2 : Pv (andE (e1 notnK (varE 1)) (e2 ltK (varE 0) (varE 1))) (startE n_is_number [.int i, oI lo, oI hi]) c (.bl (belowB lo i)) := by
      cases lo with
      | none => exact pv_and (a := false) (b := false) (pv_e1 (pv_var rfl) rfl) (fun z => by cases z)
      | some l => exact pv_and (a := true) (b := decide (i < l)) (pv_e1 (pv_var rfl) rfl) (fun _ => pv_e2 (pv_var rfl) (pv_var rfl) rfl)
    have q3 : Pv (orE (e1 isnK (varE 2)) (e2 leK (varE 0) (varE 2))) (startE n_is_number [.int i, oI lo, oI hi]) c (.bl (upToB hi i)) := by
      cases hi with
      | none => exact pv_or (a := true) (b := true) (pv_e1 (pv_var rfl) rfl) (fun z => by cases z)
      | some l => exact pv_or (a := false) (b := decide (i ≤ l)) (pv_e1 (pv_var rfl) rfl) (fun _ => pv_e2 (pv_var rfl) (pv_var rfl) rfl)
    have e : numB lo hi (.int i) = (!(false || belowB lo i) && upToB hi i) := by rw [Bool.false_or]; rfl
    rw [e]
    exact guard_of (pv_or (pv_not q1) fun _ => q2) fun _ => ret_of q3
def Sp_is_tuple_of (f : G.FnT) : Prop := ∀ v (n : Nat) c, nf v = true → f [v, .int n] c = some (.ok (.bl (decide (tupLen v = some n))) c)
theorem sp_is_tuple_of : Sp_is_tuple_of (arK 2 (runB finF n_is_tuple_of b_is_tuple_of)) := fun v n c h => by
  refine (arK_eq rfl).trans (run_ret (ret_of ?_))
  have q1 : Pv (e1 (isiK .tup) (varE 0)) (startE n_is_tuple_of [v, .int n]) c (.bl (isKi .tup v)) := pv_e1 (pv_var rfl) (isi_of h)
  cases v with
  | tup xs =>
    have e : decide (tupLen (.tup xs) = some n) = (true && eqD (.int xs.length) (.int n)) := by
      show decide (some xs.length = some n) = (true && ((xs.length : Int) == n))
      rw [Bool.true_and]
      by_cases z : xs.length = n
      · simp [z]
      · have : ((xs.length : Int) == (n : Int)) = false := by simp; omega
        rw [this]; simp [z]
    rw [e]
    exact pv_and q1 fun _ => pv_e2 (pv_b (pv_cons (pv_var rfl) pv_nil) rfl) (pv_var rfl) (eq_of (n := 0) (m := 0) rfl rfl)
  | _ => exact pv_and (a := false) (b := false) q1 (fun z => by cases z)
def oneOf (ws : List D) (v : D) : Bool := match v with
  | .str _ => ws.any fun w => eqD w v
  | _ => false
def Sp_is_one_of (f : G.FnT) : Prop := ∀ v ws c, gd 20 v = true → gd 20 (.tup ws) = true → f [v, .tup ws] c = some (.ok (.bl (oneOf ws v)) c)
theorem in_tup {n m : Nat} {x : D} {ys : List D} {c : Cells} (neg : Bool) (h1 : gd n x = true) (h2 : gd (m + 1) (.tup ys) = true) (hn : n ≤ 60 := by decide) (hm : m ≤ 60 := by decide) : inK neg x (.tup ys) c = some (.ok (.bl (if neg then !(ys.any fun w => eqD w x) else ys.any fun w => eqD w x)) c) := by
  simp only [gd, Bool.and_eq_true] at h2
  have e1 := gd60 (c := c) h1 hn
  have e2 := fits_mono m 60 ys hm (gds_fit m ys h2.1)
  have e3 := gd_rs (c := c) h1
  have e : inK neg x (.tup ys) c = (if fit 60 (rs c x) && fits 60 ys then okb (if neg then !inAns (rs c x) ys else inAns (rs c x) ys) c else none) := by cases x <;> rfl
  rw [e, e1, e2, e3]
  rfl
theorem sp_is_one_of : Sp_is_one_of (arK 2 (runB finF n_is_one_of b_is_one_of)) := fun v ws c h h2 => by
  refine (arK_eq rfl).trans (run_ret (ret_of ?_))
  have q1 : Pv (e1 (isiK .str) (varE 0)) (startE n_is_one_of [v, .tup ws]) c (.bl (isKi .str v)) := pv_e1 (pv_var rfl) (isi_of (gd_nf h))
  cases v with
  | str s => exact pv_and (a := true) q1 fun _ => pv_e2 (pv_var rfl) (pv_var rfl) (in_tup false h h2)
  | _ => exact pv_and (a := false) (b := false) q1 (fun z => by cases z)
def LETS : Str := "abcdefghijklmnopqrstuvwxyz"
def wordS (s : Str) : Bool := !(s == ("" : Str)) && s.cps.toList.all fun k => decide (k ∈ LETS.cps.toList)
def wordD : D → Bool
  | .str s => wordS s
  | _ => false
def Sp_is_word (f : G.FnT) : Prop := ∀ v c, gd 20 v = true → f [v] c = some (.ok (.bl (wordD v)) c)
theorem sp_is_word : Sp_is_word (arK 1 (runB finF n_is_word b_is_word)) := fun v c h => by
  refine (arK_eq rfl).trans (run_ret (ret_of ?_))
  have q1 : Pv (e1 (isiK .str) (varE 0)) (startE n_is_word [v]) c (.bl (isKi .str v)) := pv_e1 (pv_var rfl) (isi_of (gd_nf h))
  cases v with
  | str s =>
    have hs : s.length ≤ 10000 := by
      have h' : (PyData.strOk s && decide (s.length ≤ 10000)) = true := h
      simp only [Bool.and_eq_true, decide_eq_true_eq] at h'
      exact h'.2
    have hl : s.cps.toList.length ≤ 10000 := by simpa [Str.length] using hs
    have e : wordD (.str s) = (true && (!eqD (.str s) (.str "") && ((s.cps.toList.map fun k => D.str ⟨#[k]⟩).all fun d => match d with
      | .str z => (match z.cps.toList with
        | [k] => decide (k ∈ LETS.cps.toList)
        | _ => false)
      | _ => false))) := by
      show (!(s == ("" : Str)) && _) = (true && (!(s == ("" : Str)) && _))
      rw [Bool.true_and, List.all_map]
      rfl
    rw [e]
    refine pv_and q1 fun _ => pv_and (pv_e2 (pv_var rfl) pv_c (ne_of (n := 20) (m := 0) h (by decide +kernel))) fun _ => ?_
    refine pv_all _ (pv_e1 (x := .str s) (pv_var rfl) rfl) (fun x hx => ?_) (by show (chars s).length ≤ _; unfold chars; rw [List.length_map]; omega)
    obtain ⟨k, _, rfl⟩ := List.mem_map.mp hx
    exact ⟨_, rfl, pv_e2 (pv_var rfl) pv_c rfl⟩
  | _ => exact pv_and (a := false) (b := false) q1 (fun z => by cases z)
def WORDL : List D := [.str "again", .str "at", .str "beat", .str "calm", .str "door", .str "ends", .str "first", .str "from", .str "go", .str "house", .str "in", .str "left", .str "long", .str "never", .str "none", .str "open", .str "post", .str "right", .str "second", .str "shut", .str "stand", .str "sweep", .str "to", .str "turns", .str "wall", .str "way", .str "wedge"]
def nameS (s : Str) : Bool := wordS s && (decide (s.length ≤ 8) && !(WORDL.any fun w => eqD w (.str s)))
def nameD : D → Bool
  | .str s => nameS s
  | _ => false
def Sp_is_name (f : G.FnT) : Prop := ∀ v c, gd 20 v = true → f [v] c = some (.ok (.bl (nameD v)) c)
theorem sp_is_name {f_is_word : G.FnT} (h1 : Sp_is_word f_is_word) : Sp_is_name (arK 1 (runB finF n_is_name (b_is_name f_is_word))) := fun v c h => by
  refine (arK_eq rfl).trans (run_ret (ret_of ?_))
  have q1 : Pv (bE (arK 1 f_is_word) (consA (varE 0) nilA)) (startE n_is_name [v]) c (.bl (wordD v)) := pv_call (pv_cons (pv_var rfl) pv_nil) rfl (h1 v c h)
  cases v with
  | str s =>
    have hs : s.length ≤ 10000 := by
      have h' : (PyData.strOk s && decide (s.length ≤ 10000)) = true := h
      simp only [Bool.and_eq_true, decide_eq_true_eq] at h'
      exact h'.2
    refine pv_and q1 fun _ => pv_and (a := decide (s.length ≤ 8)) (pv_e2 (x := .int s.length) (y := .int 8) (pv_b (pv_cons (pv_var rfl) pv_nil) ?_) pv_c ?_) fun _ => pv_e2 (pv_var rfl) pv_c (in_tup true (n := 20) (m := 19) h (by decide +kernel))
    · show (if sz s.length then _ else none) = _
      rw [if_pos (show sz s.length = true from decide_eq_true (by omega))]
      rfl
    · show okb (decide ((s.length : Int) ≤ 8)) c = _
      have : decide ((s.length : Int) ≤ 8) = decide (s.length ≤ 8) := by by_cases z : s.length ≤ 8 <;> simp [z] <;> omega
      rw [this]
      rfl
  | _ => exact pv_and (a := false) (b := false) q1 (fun z => by cases z)
/-! ### headings, leaves, walls -/
def hdD : D → Bool
  | .tup [.int a, .int b] => (numB (some (-9)) (some 9) (.int a) && numB (some (-9)) (some 9) (.int b)) && decide (Nat.gcd a.natAbs b.natAbs = 1)
  | _ => false
def Sp_is_heading_form (f : G.FnT) : Prop := ∀ v c, gd 20 v = true → f [v] c = some (.ok (.bl (hdD v)) c)
theorem sp_is_heading_form {f_is_number f_is_tuple_of : G.FnT} (h1 : Sp_is_number f_is_number) (h2 : Sp_is_tuple_of f_is_tuple_of) : Sp_is_heading_form (arK 1 (runB finF n_is_heading_form (b_is_heading_form f_is_number f_is_tuple_of))) := fun v c h => by
  refine (arK_eq rfl).trans (run_ret ?_)
  have q1 : Pv (bE (arK 2 f_is_tuple_of) (consA (varE 0) (consA (cE (.int 2)) nilA))) (startE n_is_heading_form [v]) c (.bl (decide (tupLen v = some 2))) := pv_call (pv_cons (pv_var rfl) (pv_cons pv_c pv_nil)) rfl (h2 v 2 c (gd_nf h))
  by_cases ht : tupLen v = some 2
  · obtain ⟨xs, rfl, hl⟩ := tup_of ht
    obtain ⟨x, y, rfl⟩ := len2 hl
    have hx := gd_in h
    have q2 := pv_all (it := e1 iterK (varE 0)) (tg := nameG 1) (el := bE (arK 3 f_is_number) (consA (varE 1) (consA (e2 subK (cE (.int 0)) (cE (.int 9))) (consA (cE (.int 9)) nilA)))) (env := startE n_is_heading_form [.tup [x, y]]) (c := c) (vs := [1]) (numB (some (-9)) (some 9)) (pv_e1 (pv_var rfl) rfl)
      (fun z hz => ⟨_, rfl, pv_call (ds := [z, .int (-9), .int 9]) (pv_cons (pv_var rfl) (pv_cons (pv_e2 pv_c pv_c rfl) (pv_cons pv_c pv_nil))) rfl (h1 z (some (-9)) (some 9) c (gd_nf (hx z hz)))⟩) (by simp)
    cases hb : [x, y].all (numB (some (-9)) (some 9)) with
    | false =>
      have e : hdD (.tup [x, y]) = (!((!decide (tupLen (.tup [x, y]) = some 2)) || !false) && false) := by
        rw [Bool.and_false]
        cases x <;> cases y <;> first | rfl | (simp only [List.all_cons, List.all_nil, Bool.and_true] at hb; simp only [hdD, hb, Bool.false_and])
      rw [e]
      rw [hb] at q2
      exact guard_of (pv_or (pv_not q1) fun _ => pv_not q2) fun z => by simp at z
    | true =>
      simp only [List.all_cons, List.all_nil, Bool.and_true, Bool.and_eq_true] at hb
      obtain ⟨a, rfl⟩ : ∃ a, x = .int a := by cases x <;> first | exact ⟨_, rfl⟩ | (exact absurd hb.1 (by simp [numB]))
      obtain ⟨b, rfl⟩ : ∃ b, y = .int b := by cases y <;> first | exact ⟨_, rfl⟩ | (exact absurd hb.2 (by simp [numB]))
      have e : hdD (.tup [.int a, .int b]) = (!((!decide (tupLen (.tup [.int a, .int b]) = some 2)) || !([D.int a, .int b].all (numB (some (-9)) (some 9)))) && eqD (.int (Nat.gcd a.natAbs b.natAbs : Nat)) (.int 1)) := by
        simp only [hdD, ht, decide_true, Bool.not_true, Bool.false_or, Bool.not_not, List.all_cons, List.all_nil, Bool.and_true, hb.1, hb.2, Bool.true_and, Bool.and_self]
        show decide _ = (((Nat.gcd a.natAbs b.natAbs : Nat) : Int) == 1)
        by_cases z : Nat.gcd a.natAbs b.natAbs = 1
        · simp [z]
        · have : (((Nat.gcd a.natAbs b.natAbs : Nat) : Int) == 1) = false := by simp; omega
          rw [this]; simp [z]
      rw [e]
      exact guard_of (pv_or (pv_not q1) fun _ => pv_not q2) fun _ => ret_of (pv_e2 (pv_b (pv_cons (pv_e2 (pv_var rfl) pv_c rfl) (pv_cons (pv_e2 (pv_var rfl) pv_c rfl) pv_nil)) rfl) pv_c (eq_of (n := 0) (m := 0) rfl rfl))
  · have e : hdD v = false := by
      cases v with
      | tup xs =>
        match xs, ht with
        | [], _ => rfl
        | [x], _ => cases x <;> rfl
        | [x, y], ht => exact absurd rfl ht
        | x :: y :: z :: r, _ => cases x <;> cases y <;> rfl
      | _ => rfl
    rw [e]
    rw [decide_eq_false ht] at q1
    exact guard_of (a := true) (b := false) (pv_or (b := false) (pv_not q1) (fun z => by cases z)) (fun z => by cases z)
def plc : D → Bool := numB (some 0) (some 199)
def Sp_is_place_number (f : G.FnT) : Prop := ∀ v c, nf v = true → f [v] c = some (.ok (.bl (plc v)) c)
theorem sp_is_place_number {f_is_number : G.FnT} (h1 : Sp_is_number f_is_number) : Sp_is_place_number (arK 1 (runB finF n_is_place_number (b_is_place_number f_is_number))) := fun v c h =>
  (arK_eq rfl).trans (run_ret (ret_of (pv_call (ds := [v, .int 0, .int 199]) (pv_cons (pv_var rfl) (pv_cons pv_c (pv_cons pv_c pv_nil))) rfl (h1 v (some 0) (some 199) c h))))
def plcs : List D → Bool := fun xs => xs.all plc
def turnD : D → Bool := oneOf [.str "left", .str "right"]
def leafD : D → Bool
  | .tup [n, x, y, l, s, t, o] => (nameD n && (plc x && plc y)) && ((numB (some 1) (some 99) l && turnD t) && (hdD s && (hdD o && !eqD s o)))
  | _ => false
def Sp_is_leaf_form (f : G.FnT) : Prop := ∀ v c, gd 20 v = true → f [v] c = some (.ok (.bl (leafD v)) c)
theorem sp_is_leaf_form {f_is_place_number f_is_name f_is_tuple_of f_is_one_of f_is_number f_is_heading_form : G.FnT} (h1 : Sp_is_place_number f_is_place_number) (h2 : Sp_is_name f_is_name) (h3 : Sp_is_tuple_of f_is_tuple_of) (h4 : Sp_is_one_of f_is_one_of) (h5 : Sp_is_number f_is_number) (h6 : Sp_is_heading_form f_is_heading_form) :
    Sp_is_leaf_form (arK 1 (runB finF n_is_leaf_form (b_is_leaf_form f_is_place_number f_is_name f_is_tuple_of f_is_one_of f_is_number f_is_heading_form))) := fun v c h => by
  refine (arK_eq rfl).trans (run_ret ?_)
  have q1 : Pv (bE (arK 2 f_is_tuple_of) (consA (varE 0) (consA (cE (.int 7)) nilA))) (startE n_is_leaf_form [v]) c (.bl (decide (tupLen v = some 7))) := pv_call (pv_cons (pv_var rfl) (pv_cons pv_c pv_nil)) rfl (h3 v 7 c (gd_nf h))
  by_cases ht : tupLen v = some 7
  · obtain ⟨xs, rfl, hl⟩ := tup_of ht
    obtain ⟨n, x, y, l, s, t, o, rfl⟩ := len7 hl
    have hx := gd_in h
    have g : ∀ z, z ∈ [n, x, y, l, s, t, o] → gd 20 z = true := fun z hz => gd_up (hx z hz)
    have ix : ∀ (i : Nat) (z : D), [n, x, y, l, s, t, o][i]? = some z → i < 7 → Pv (e2 ixK (varE 0) (cE (.int i))) (startE n_is_leaf_form [.tup [n, x, y, l, s, t, o]]) c z := fun i z hz hi => pv_e2 (pv_var rfl) pv_c (by
      match i, hz, hi with
      | 0, hz, _ => cases hz; rfl
      | 1, hz, _ => cases hz; rfl
      | 2, hz, _ => cases hz; rfl
      | 3, hz, _ => cases hz; rfl
      | 4, hz, _ => cases hz; rfl
      | 5, hz, _ => cases hz; rfl
      | 6, hz, _ => cases hz; rfl)
    have q2 := pv_all (it := e1 iterK (slE (varE 0) (some (cE (.int 1))) (some (cE (.int 3))))) (tg := nameG 1) (el := bE (arK 1 f_is_place_number) (consA (varE 1) nilA)) (env := startE n_is_leaf_form [.tup [n, x, y, l, s, t, o]]) (c := c) (vs := [1]) (items := [x, y]) plc (pv_e1 (x := .tup [x, y]) rfl rfl)
      (fun z hz => ⟨_, rfl, pv_call (pv_cons (pv_var rfl) pv_nil) rfl (h1 z c (gd_nf (g z (by simp at hz ⊢; rcases hz with e | e <;> simp [e]))))⟩) (by simp)
    have e : leafD (.tup [n, x, y, l, s, t, o]) = (!((!decide (tupLen (.tup [n, x, y, l, s, t, o]) = some 7)) || (!nameD n || ![x, y].all plc)) && (!(!numB (some 1) (some 99) l || !turnD t) && (hdD s && (hdD o && !eqD s o)))) := by
      simp only [ht, decide_true, Bool.not_true, Bool.false_or, Bool.not_or, Bool.not_not, List.all_cons, List.all_nil, Bool.and_true, leafD, Bool.and_assoc]
    rw [e]
    refine guard_of (pv_or (pv_not q1) fun _ => pv_or (pv_not (pv_call (pv_cons (ix 0 n rfl (by decide)) pv_nil) rfl (h2 n c (g n (by simp))))) fun _ => pv_not q2) fun _ => ?_
    refine guard_of (pv_or (pv_not (pv_call (ds := [l, .int 1, .int 99]) (pv_cons (ix 3 l rfl (by decide)) (pv_cons pv_c (pv_cons pv_c pv_nil))) rfl (h5 l (some 1) (some 99) c (gd_nf (g l (by simp)))))) fun _ => pv_not (pv_call (pv_cons (ix 5 t rfl (by decide)) (pv_cons pv_c pv_nil)) rfl (h4 t _ c (g t (by simp)) (by decide +kernel)))) fun _ => ?_
    exact ret_of (pv_and (pv_call (pv_cons (ix 4 s rfl (by decide)) pv_nil) rfl (h6 s c (g s (by simp)))) fun _ => pv_and (pv_call (pv_cons (ix 6 o rfl (by decide)) pv_nil) rfl (h6 o c (g o (by simp)))) fun _ =>
      pv_e2 (ix 4 s rfl (by decide)) (ix 6 o rfl (by decide)) (ne_of (g s (by simp)) (g o (by simp))))
  · have e : leafD v = false := by
      unfold leafD
      split
      · exact absurd rfl ht
      · rfl
    rw [e]
    rw [decide_eq_false ht] at q1
    exact guard_of (a := true) (b := false) (pv_or (b := false) (pv_not q1) (fun z => by cases z)) (fun z => by cases z)
def wallD : D → Bool
  | .tup [.int a, .int b, .int c, .int d] => (plc (.int a) && (plc (.int b) && (plc (.int c) && plc (.int d)))) && (decide (a < c) || (decide (a = c) && decide (b ≤ d)))
  | _ => false
/-! ### the first wrong thing of a row -/
def badP (most : Option Int) (p : D → List D → Bool) (xs : List D) : D → Bool
  | .tup [.int i, x] => decide (most = some i) || !p x (xs.take i.toNat)
  | _ => false
def firstL : D → List D
  | .tup (i :: _) => [i]
  | _ => []
def wrongL (most : Option Int) (p : D → List D → Bool) : D → List D
  | .tup xs => (match (enumD xs).find? (badP most p xs) with
    | some d => firstL d
    | none => [])
  | _ => [.non]
def RightAt (φ : Fns) (k : Nat) (c : Cells) (most : Option Int) (p : D → List D → Bool) (v : D) : Prop :=
  ∀ xs, v = .tup xs → ∀ (i : Nat) (x : D), xs[i]? = some x → (∀ (j : Nat) (z : D), j < i → xs[j]? = some z → most ≠ some (j : Int) ∧ p z (xs.take j) = true) → most ≠ some (i : Int) → φ k [x, .tup (xs.take i)] c = some (.ok (.bl (p x (xs.take i))) c)
def Sp_wrong_at (φ : Fns) (f : G.FnT) : Prop := ∀ v most k c p, gd 20 v = true → RightAt φ k c most p v → f [v, oI most, .fn k] c = some (.ok (.lst (wrongL most p v)) c)
theorem gd_oI {o : Option Int} : gd 0 (oI o) = true := by cases o <;> rfl
theorem eqD_oI {i : Int} {o : Option Int} : eqD (.int i) (oI o) = decide (o = some i) := by
  cases o with
  | none => rfl
  | some j =>
    show (i == j) = decide (some j = some i)
    by_cases h : i = j
    · simp [h]
    · have : ¬ j = i := fun e => h e.symm
      simp [h, this]
theorem sp_wrong_at {φ : Fns} : Sp_wrong_at φ (arK 3 (runB finF n_wrong_at (b_wrong_at φ))) := fun v most k c p h hr => by
  refine (arK_eq rfl).trans (run_ret ?_)
  have q1 : Pv (notE (e1 (isiK .tup) (varE 0))) (startE n_wrong_at [v, oI most, .fn k]) c (.bl (!isKi .tup v)) := pv_not (pv_e1 (pv_var rfl) (isi_of (gd_nf h)))
  by_cases hv : ∃ xs, v = .tup xs
  · obtain ⟨xs, rfl⟩ := hv
    refine (seq_nx (if_of (a := false) q1)).trans ?_
    have ln := gd_len h
    have lp := forL_find (tg := tupG 2 (consG (nameG 3) (consG (nameG 4) nilG))) (c := c)
      (b := ifS (orE (e2 eqK (varE 3) (varE 1)) (notE (fvE φ 2 (consA (varE 4) (consA (slE (varE 0) none (some (varE 3))) nilA))))) (retS (e1 lstK (consA (varE 3) nilA))) skipS) (bad := badP most p xs) (res := fun d => .lst (firstL d))
      (fun e => ∃ a b, e = [some (.tup xs), some (oI most), some (.fn k), a, b]) (enumD xs) (startE n_wrong_at [.tup xs, oI most, .fn k]) ⟨none, none, rfl⟩ (fun pre x post e he hpre ⟨a, b, ee⟩ => by
        obtain ⟨y, hy, ex, hm⟩ := enumD_split he
        have hi : pre.length < xs.length := len_pos_of hy
        subst ee ex
        refine ⟨[some (.tup xs), some (oI most), some (.fn k), some (.int (pre.length : Nat)), some y], rfl, ?_⟩
        have okp : ∀ (j : Nat) (z : D), j < pre.length → xs[j]? = some z → most ≠ some (j : Int) ∧ p z (xs.take j) = true := fun j z hj hz => by
          have := hpre _ (hm j z hj hz)
          simp only [badP, G.pairD, Bool.or_eq_false_iff, decide_eq_false_iff_not, Bool.not_eq_false', Int.toNat_natCast] at this
          exact this
        have bx : badP most p xs (G.pairD (.int (pre.length : Nat)) y) = (decide (most = some ((pre.length : Nat) : Int)) || !p y (xs.take pre.length)) := by
          simp only [badP, G.pairD, Int.toNat_natCast]
        have cond : Pv (orE (e2 eqK (varE 3) (varE 1)) (notE (fvE φ 2 (consA (varE 4) (consA (slE (varE 0) none (some (varE 3))) nilA))))) [some (.tup xs), some (oI most), some (.fn k), some (.int (pre.length : Nat)), some y] c (.bl (badP most p xs (G.pairD (.int (pre.length : Nat)) y))) := by
          rw [bx, ← eqD_oI]
          refine pv_or (pv_e2 (pv_var rfl) (pv_var rfl) (eq_of (n := 0) (m := 0) rfl gd_oI)) fun hne => pv_not (pv_fv rfl (pv_cons (pv_var rfl) (pv_cons (pv_slice (l := none) (h := some (pre.length : Int)) (pv_var rfl) True.intro (pv_var rfl) ?_) pv_nil)) (hr xs rfl pre.length y hy okp ?_))
          · show okd (.tup (cutD xs none (some (pre.length : Int)))) c = _
            rw [cut_take (Nat.le_of_lt hi)]; rfl
          · rw [eqD_oI] at hne
            exact of_decide_eq_false hne
        cases hb : badP most p xs (G.pairD (.int (pre.length : Nat)) y) with
        | false =>
          rw [hb] at cond
          exact .inl ⟨rfl, _, if_of (a := false) cond, _, _, rfl⟩
        | true =>
          rw [hb] at cond
          exact .inr ⟨rfl, (if_of (a := true) cond).trans (ret_of (pv_lst (pv_cons (pv_var rfl) pv_nil) rfl))⟩)
    have hit : Pv (e1 enK (consA (varE 0) nilA)) (startE n_wrong_at [.tup xs, oI most, .fn k]) c (.tup (enumD xs)) := pv_e1 (pv_cons (pv_var rfl) pv_nil) rfl
    rcases lp with ⟨x, h1, h2⟩ | ⟨h1, e, ⟨a, b, ee⟩, h2⟩
    · have w : wrongL most p (.tup xs) = firstL x := by simp only [wrongL, h1]
      rw [w]
      exact seq_ret ((for_of hit).trans h2)
    · have w : wrongL most p (.tup xs) = [] := by simp only [wrongL, h1]
      rw [w]
      refine (seq_nx ((for_of hit).trans h2)).trans (ret_of (pv_lst pv_nil rfl))
  · have w : wrongL most p v = [.non] := by
      cases v with
      | tup xs => exact absurd ⟨xs, rfl⟩ hv
      | _ => rfl
    rw [w]
    have z : isKi .tup v = false := by
      cases v with
      | tup xs => exact absurd ⟨xs, rfl⟩ hv
      | _ => rfl
    rw [z] at q1
    exact seq_ret ((if_of (a := true) q1).trans (ret_of (pv_lst (pv_cons pv_c pv_nil) rfl)))
theorem wrongL_nil {most : Option Int} {p : D → List D → Bool} {v : D} : wrongL most p v = [] ↔ ∃ xs, v = .tup xs ∧ ∀ (i : Nat) (x : D), xs[i]? = some x → most ≠ some (i : Int) ∧ p x (xs.take i) = true := by
  constructor
  · intro h
    cases v with
    | tup xs =>
      refine ⟨xs, rfl, fun i x hx => ?_⟩
      simp only [wrongL] at h
      have hm := List.mem_of_getElem? (enumD_at hx)
      have bx : badP most p xs (G.pairD (.int (i : Nat)) x) = (decide (most = some ((i : Nat) : Int)) || !p x (xs.take i)) := by
        simp only [badP, G.pairD, Int.toNat_natCast]
      cases hf : (enumD xs).find? (badP most p xs) with
      | none =>
        have := List.find?_eq_none.mp hf _ hm
        rw [bx] at this
        simp only [Bool.or_eq_true, decide_eq_true_eq, Bool.not_eq_true', not_or, Bool.not_eq_false] at this
        exact this
      | some d =>
        rw [hf] at h
        obtain ⟨j, hj⟩ := List.mem_iff_getElem?.mp (List.mem_of_find?_eq_some hf)
        obtain ⟨y, _, e⟩ := enumD_get hj
        rw [e] at h
        cases h
    | _ => cases h
  · rintro ⟨xs, rfl, h⟩
    simp only [wrongL]
    have : (enumD xs).find? (badP most p xs) = none := by
      rw [List.find?_eq_none]
      intro d hd
      obtain ⟨j, hj⟩ := List.mem_iff_getElem?.mp hd
      obtain ⟨y, hy, e⟩ := enumD_get hj
      obtain ⟨h1, h2⟩ := h j y hy
      rw [e]
      have bx : badP most p xs (G.pairD (.int (j : Nat)) y) = (decide (most = some ((j : Nat) : Int)) || !p y (xs.take j)) := by
        simp only [badP, G.pairD, Int.toNat_natCast]
      rw [bx, h2]
      simpa using h1
    rw [this]
theorem wrongL_gd {most : Option Int} {p : D → List D → Bool} {v : D} : gd 20 (.lst (wrongL most p v)) = true := by
  cases v with
  | tup xs =>
    simp only [wrongL]
    cases hf : (enumD xs).find? (badP most p xs) with
    | none => rfl
    | some d =>
      obtain ⟨j, hj⟩ := List.mem_iff_getElem?.mp (List.mem_of_find?_eq_some hf)
      obtain ⟨y, _, e⟩ := enumD_get hj
      rw [e]
      rfl
  | _ => rfl
def emptyTup : D → Bool
  | .tup [] => true
  | _ => false
def wrong1 (most : Option Int) (p : D → List D → Bool) (v : D) : List D := if emptyTup v then [.non] else wrongL most p v
def Sp_wrong_from_one (φ : Fns) (f : G.FnT) : Prop := ∀ v most k c p, gd 20 v = true → RightAt φ k c most p v → f [v, oI most, .fn k] c = some (.ok (.lst (wrong1 most p v)) c)
theorem sp_wrong_from_one {φ : Fns} {f_wrong_at : G.FnT} (h1 : Sp_wrong_at φ f_wrong_at) : Sp_wrong_from_one φ (arK 3 (runB finF n_wrong_from_one (b_wrong_from_one f_wrong_at))) := fun v most k c p h hr => by
  refine (arK_eq rfl).trans (run_ret (ret_of ?_))
  have q1 : Pv (e1 (isiK .tup) (varE 0)) (startE n_wrong_from_one [v, oI most, .fn k]) c (.bl (isKi .tup v)) := pv_e1 (pv_var rfl) (isi_of (gd_nf h))
  have q2 : Pv (andE (e1 (isiK .tup) (varE 0)) (e2 eqK (varE 0) (e1 tupK nilA))) (startE n_wrong_from_one [v, oI most, .fn k]) c (.bl (isKi .tup v && emptyTup v)) := pv_and q1 fun ht => by
    obtain ⟨xs, rfl⟩ : ∃ xs, v = .tup xs := by cases v <;> first | exact ⟨_, rfl⟩ | cases ht
    have e : emptyTup (.tup xs) = eqD (.tup xs) (.tup []) := by rw [eqD_nil]; cases xs <;> rfl
    rw [e]
    exact pv_e2 (pv_var rfl) (pv_tup pv_nil rfl) (eq_of (n := 20) (m := 1) h rfl)
  have q3 : Pv (bE (arK 3 f_wrong_at) (consA (varE 0) (consA (varE 1) (consA (varE 2) nilA)))) (startE n_wrong_from_one [v, oI most, .fn k]) c (.lst (wrongL most p v)) := pv_call (pv_cons (pv_var rfl) (pv_cons (pv_var rfl) (pv_cons (pv_var rfl) pv_nil))) rfl (h1 v most k c p h hr)
  have q4 := pv_if q2 (fun _ => pv_lst (pv_cons (pv_c (d := .non)) pv_nil) rfl) (fun _ => q3)
  have e : (if (isKi .tup v && emptyTup v) = true then D.lst [.non] else .lst (wrongL most p v)) = .lst (wrong1 most p v) := by
    unfold wrong1
    have : (isKi .tup v && emptyTup v) = emptyTup v := by
      cases v with
      | tup xs => exact Bool.true_and _
      | _ => rfl
    rw [this]
    split <;> rfl
  rw [← e]
  exact q4
/-! ### walls -/
theorem plc_int {x : D} (h : plc x = true) : ∃ i : Int, x = .int i ∧ 0 ≤ i ∧ i ≤ 199 := by
  cases x with
  | int i =>
    simp only [plc, numB, belowB, upToB, Bool.and_eq_true, Bool.not_eq_true', decide_eq_false_iff_not, decide_eq_true_eq] at h
    exact ⟨i, rfl, by omega, h.2⟩
  | _ => cases h
theorem lexLe2 {a b c d : Int} : lexLe [a, b] [c, d] = (decide (a < c) || (decide (a = c) && decide (b ≤ d))) := by
  show (if decide (a = c) = true then (if decide (b = d) = true then true else decide (b ≤ d)) else decide (a ≤ c)) = _
  by_cases h1 : a = c
  · subst h1
    by_cases h2 : b = d
    · subst h2; simp
    · simp [h2]
  · by_cases h2 : a < c
    · simp [h1, h2]; omega
    · simp [h1, h2]; omega
def Sp_is_wall_form (f : G.FnT) : Prop := ∀ v c, gd 20 v = true → f [v] c = some (.ok (.bl (wallD v)) c)
theorem sp_is_wall_form {f_is_place_number f_is_tuple_of : G.FnT} (h1 : Sp_is_place_number f_is_place_number) (h3 : Sp_is_tuple_of f_is_tuple_of) : Sp_is_wall_form (arK 1 (runB finF n_is_wall_form (b_is_wall_form f_is_place_number f_is_tuple_of))) := fun v c h => by
  refine (arK_eq rfl).trans (run_ret ?_)
  have q1 : Pv (bE (arK 2 f_is_tuple_of) (consA (varE 0) (consA (cE (.int 4)) nilA))) (startE n_is_wall_form [v]) c (.bl (decide (tupLen v = some 4))) := pv_call (pv_cons (pv_var rfl) (pv_cons pv_c pv_nil)) rfl (h3 v 4 c (gd_nf h))
  by_cases ht : tupLen v = some 4
  · obtain ⟨xs, rfl, hl⟩ := tup_of ht
    obtain ⟨x, y, z, u, rfl⟩ := len4 hl
    have hx := gd_in h
    have q2 := pv_all (it := e1 iterK (varE 0)) (tg := nameG 1) (el := bE (arK 1 f_is_place_number) (consA (varE 1) nilA)) (env := startE n_is_wall_form [.tup [x, y, z, u]]) (c := c) (vs := [1]) plc (pv_e1 (pv_var rfl) rfl)
      (fun t ht => ⟨_, rfl, pv_call (pv_cons (pv_var rfl) pv_nil) rfl (h1 t c (gd_nf (hx t ht)))⟩) (by simp)
    cases hb : [x, y, z, u].all plc with
    | false =>
      have e : wallD (.tup [x, y, z, u]) = (!((!decide (tupLen (.tup [x, y, z, u]) = some 4)) || !false) && false) := by
        rw [Bool.and_false]
        unfold wallD
        split
        · rename_i a b c d he
          cases he
          simp only [List.all_cons, List.all_nil, Bool.and_true] at hb
          rw [hb]; rfl
        · rfl
      rw [e]
      rw [hb] at q2
      exact guard_of (pv_or (pv_not q1) fun _ => pv_not q2) fun z => by simp at z
    | true =>
      simp only [List.all_cons, List.all_nil, Bool.and_true, Bool.and_eq_true] at hb
      obtain ⟨a, rfl, _⟩ := plc_int hb.1
      obtain ⟨b, rfl, _⟩ := plc_int hb.2.1
      obtain ⟨d, rfl, _⟩ := plc_int hb.2.2.1
      obtain ⟨g, rfl, _⟩ := plc_int hb.2.2.2
      have e : wallD (.tup [.int a, .int b, .int d, .int g]) = (!((!decide (tupLen (.tup [.int a, .int b, .int d, .int g]) = some 4)) || !([D.int a, .int b, .int d, .int g].all plc)) && lexLe [a, b] [d, g]) := by
        simp only [wallD, ht, decide_true, Bool.not_true, Bool.false_or, Bool.not_not, List.all_cons, List.all_nil, Bool.and_true, hb.1, hb.2.1, hb.2.2.1, hb.2.2.2, Bool.true_and, Bool.and_self, Bool.not_false, lexLe2]
      rw [e]
      refine guard_of (pv_or (pv_not q1) fun _ => pv_not q2) fun _ => ret_of ?_
      exact pv_e2 (x := .tup [.int a, .int b]) (y := .tup [.int d, .int g]) (pv_slice (l := none) (h := some 2) (pv_var rfl) True.intro pv_c rfl) (pv_slice (l := some 2) (h := none) (pv_var rfl) pv_c True.intro rfl) rfl
  · have e : wallD v = false := by
      unfold wallD
      split
      · exact absurd rfl ht
      · rfl
    rw [e]
    rw [decide_eq_false ht] at q1
    exact guard_of (a := true) (b := false) (pv_or (b := false) (pv_not q1) (fun z => by cases z)) (fun z => by cases z)
def ints4 : D → List Int
  | .tup [.int a, .int b, .int c, .int d] => [a, b, c, d]
  | _ => []
theorem wall_ints {v : D} (h : wallD v = true) : ∃ a b c d : Int, v = .tup [.int a, .int b, .int c, .int d] := by
  unfold wallD at h
  split at h
  · exact ⟨_, _, _, _, rfl⟩
  · cases h
def aboveW (bs : List D) (x : D) : Bool := match bs.getLast? with
  | none => true
  | some l => HT.lexLt (ints4 l) (ints4 x)
theorem getLast_some {bs : List D} (h : bs ≠ []) : ∃ l, bs.getLast? = some l ∧ l ∈ bs := by
  refine ⟨bs.getLast h, List.getLast?_eq_some_getLast h, List.getLast_mem h⟩
theorem isEmpty_ne {bs : List D} (h : bs.isEmpty = false) : bs ≠ [] := fun e => by rw [e] at h; cases h
def Sp_is_above_wall (f : G.FnT) : Prop := ∀ v bs c, wallD v = true → (∀ b ∈ bs, wallD b = true) → gd 20 (.tup bs) = true → f [v, .tup bs] c = some (.ok (.bl (aboveW bs v)) c)
theorem sp_is_above_wall : Sp_is_above_wall (arK 2 (runB finF n_is_above_last b_is_above_last)) := fun v bs c h hb hg => by
  refine (arK_eq rfl).trans (run_ret (ret_of ?_))
  have q1 : Pv (e2 eqK (varE 1) (e1 tupK nilA)) (startE n_is_above_last [v, .tup bs]) c (.bl bs.isEmpty) := by
    rw [← eqD_nil]
    exact pv_e2 (pv_var rfl) (pv_tup pv_nil rfl) (eq_of (n := 20) (m := 1) hg rfl)
  cases he : bs.isEmpty with
  | true =>
    have e : aboveW bs v = (true || false) := by
      rw [List.isEmpty_iff.mp he]; rfl
    rw [e]
    rw [he] at q1
    exact pv_or q1 fun z => by cases z
  | false =>
    obtain ⟨l, hl, hm⟩ := getLast_some (isEmpty_ne he)
    obtain ⟨a, b, d, g, rfl⟩ := wall_ints h
    obtain ⟨a2, b2, d2, g2, rfl⟩ := wall_ints (hb l hm)
    have e : aboveW bs (.tup [.int a, .int b, .int d, .int g]) = (false || HT.lexLt [a2, b2, d2, g2] [a, b, d, g]) := by
      simp only [aboveW, hl, ints4, Bool.false_or]
    rw [e]
    rw [he] at q1
    exact pv_or q1 fun _ => pv_e2 (pv_last (pv_var rfl) hl) (pv_var rfl) rfl
def nextW (x : D) (bs : List D) : Bool := wallD x && aboveW bs x
/-- wrong_walls' own test -/
theorem sp_walls_lam {f_is_above_last f_is_wall_form : G.FnT} (h1 : Sp_is_above_wall f_is_above_last) (h2 : Sp_is_wall_form f_is_wall_form) {v : D} {bs : List D} {c : Cells} (hv : gd 20 v = true) (hg : gd 20 (.tup bs) = true) (hb : ∀ b ∈ bs, wallD b = true) :
    runL finF n_wrong_walls_lam0 2 (e_wrong_walls_lam0 f_is_above_last f_is_wall_form) [v, .tup bs] c = some (.ok (.bl (nextW v bs)) c) :=
  runL_ret rfl (pv_and (pv_call (pv_cons (pv_var rfl) pv_nil) rfl (h2 v c hv)) fun hw => pv_call (pv_cons (pv_var rfl) (pv_cons (pv_var rfl) pv_nil)) rfl (h1 v bs c hw hb hg))
def wallsD (v : D) : Bool := (wrongL (some 8) nextW v).isEmpty
def Sp_wrong_walls (f : G.FnT) : Prop := ∀ v c, gd 20 v = true → f [v] c = some (.ok (.lst (wrongL (some 8) nextW v)) c)
theorem rightWalls {φ : Fns} {k : Nat} {c : Cells} {v : D} (hv : gd 20 v = true) (h : ∀ x bs, gd 20 x = true → gd 20 (.tup bs) = true → (∀ b ∈ bs, wallD b = true) → φ k [x, .tup bs] c = some (.ok (.bl (nextW x bs)) c)) : RightAt φ k c (some 8) nextW v := by
  rintro xs rfl i x hx hp _
  refine h x (xs.take i) (gd_up (gd_in hv x (List.mem_of_getElem? hx))) (gd_take hv) fun b hb => ?_
  obtain ⟨j, hj⟩ := List.mem_iff_getElem?.mp hb
  have hji : j < i := by
    have := len_pos_of hj
    rw [List.length_take] at this; omega
  rw [List.getElem?_take_of_lt hji] at hj
  have q := (hp j b hji hj).2
  simp only [nextW, Bool.and_eq_true] at q
  exact q.1
theorem sp_wrong_walls {φ : Fns} {f_wrong_at : G.FnT} {k : Nat} (h1 : Sp_wrong_at φ f_wrong_at) (h2 : ∀ x bs c, gd 20 x = true → gd 20 (.tup bs) = true → (∀ b ∈ bs, wallD b = true) → φ k [x, .tup bs] c = some (.ok (.bl (nextW x bs)) c)) : Sp_wrong_walls (arK 1 (runB finF n_wrong_walls (b_wrong_walls f_wrong_at k))) := fun v c h =>
  (arK_eq rfl).trans (run_ret (ret_of (pv_call (ds := [v, .int 8, .fn k]) (pv_cons (pv_var rfl) (pv_cons pv_c (pv_cons pv_c pv_nil))) rfl (h1 v (some 8) k c nextW h (rightWalls h fun x bs a b d => h2 x bs c a b d)))))
/-! ### leaves of a house -/
def nmOf : D → Str
  | .tup (.str s :: _) => s
  | _ => ""
def hgOf : D → D
  | .tup (_ :: x :: y :: _) => .tup [x, y]
  | d => d
theorem leaf_shape {v : D} (h : leafD v = true) : ∃ s x y l t u o, v = .tup [.str s, .int x, .int y, .int l, t, u, o] := by
  unfold leafD at h
  split at h
  · rename_i n x y l s t o
    simp only [Bool.and_eq_true] at h
    obtain ⟨⟨h1, h2, h3⟩, ⟨h4, _⟩, _⟩ := h
    obtain ⟨s, rfl⟩ : ∃ s, n = .str s := by cases n <;> first | exact ⟨_, rfl⟩ | cases h1
    obtain ⟨i, rfl, _⟩ := plc_int h2
    obtain ⟨j, rfl, _⟩ := plc_int h3
    obtain ⟨k, rfl⟩ : ∃ k, l = .int k := by cases l <;> first | exact ⟨_, rfl⟩ | cases h4
    exact ⟨_, _, _, _, _, _, _, rfl⟩
  · cases h
def Sp_hinge_of (f : G.FnT) : Prop := ∀ v c, leafD v = true → f [v] c = some (.ok (hgOf v) c)
theorem sp_hinge_of : Sp_hinge_of (arK 1 (runB finF n_hinge_of b_hinge_of)) := fun v c h => by
  obtain ⟨s, x, y, l, t, u, o, rfl⟩ := leaf_shape h
  exact (arK_eq rfl).trans (run_ret (ret_of (pv_slice (l := some 1) (h := some 3) (pv_var rfl) pv_c pv_c rfl)))
def Sp_name_in (f : G.FnT) : Prop := ∀ v c, leafD v = true → f [v] c = some (.ok (.str (nmOf v)) c)
theorem sp_name_in : Sp_name_in (arK 1 (runB finF n_name_in b_name_in)) := fun v c h => by
  obtain ⟨s, x, y, l, t, u, o, rfl⟩ := leaf_shape h
  exact (arK_eq rfl).trans (run_ret (ret_of (pv_e2 (pv_var rfl) pv_c rfl)))
def nextLf (x : D) (bs : List D) : Bool := !(!leafD x || (!bs.isEmpty && (match bs.getLast? with
  | none => false
  | some l => !decide ((nmOf l).cps.toList < (nmOf x).cps.toList)))) && !(bs.any fun l => eqD (hgOf l) (hgOf x))
def Sp_is_next_leaf (f : G.FnT) : Prop := ∀ v bs c, gd 20 v = true → gd 20 (.tup bs) = true → (∀ b ∈ bs, leafD b = true) → f [v, .tup bs] c = some (.ok (.bl (nextLf v bs)) c)
theorem gd_hg {v : D} (h : leafD v = true) : gd 20 (hgOf v) = true := by
  obtain ⟨s, x, y, l, t, u, o, rfl⟩ := leaf_shape h
  rfl
theorem in_lst {n m : Nat} {x : D} {ys : List D} {c : Cells} (neg : Bool) (h1 : gd n x = true) (h2 : gds m ys = true) (hn : n ≤ 60 := by decide) (hm : m ≤ 60 := by decide) : inK neg x (.lst ys) c = some (.ok (.bl (if neg then !(ys.any fun w => eqD w x) else ys.any fun w => eqD w x)) c) := by
  have e1 := gd60 (c := c) h1 hn
  have e2 := fits_mono m 60 ys hm (gds_fit m ys h2)
  have e3 := gd_rs (c := c) h1
  have e : inK neg x (.lst ys) c = (if fit 60 (rs c x) && fits 60 ys then okb (if neg then !inAns (rs c x) ys else inAns (rs c x) ys) c else none) := by cases x <;> rfl
  rw [e, e1, e2, e3]
  rfl
theorem sp_is_next_leaf {f_is_leaf_form f_hinge_of : G.FnT} (h1 : Sp_is_leaf_form f_is_leaf_form) (h2 : Sp_hinge_of f_hinge_of) : Sp_is_next_leaf (arK 2 (runB finF n_is_next_leaf (b_is_next_leaf f_is_leaf_form f_hinge_of))) := fun v bs c h hg hb => by
  refine (arK_eq rfl).trans (run_ret ?_)
  have q1 : Pv (bE (arK 1 f_is_leaf_form) (consA (varE 0) nilA)) (startE n_is_next_leaf [v, .tup bs]) c (.bl (leafD v)) := pv_call (pv_cons (pv_var rfl) pv_nil) rfl (h1 v c h)
  have q2 : Pv (e2 neK (varE 1) (e1 tupK nilA)) (startE n_is_next_leaf [v, .tup bs]) c (.bl (!bs.isEmpty)) := by
    rw [← eqD_nil]
    exact pv_e2 (pv_var rfl) (pv_tup pv_nil rfl) (ne_of (n := 20) (m := 1) hg rfl)
  unfold nextLf
  refine guard_of (pv_or (pv_not q1) fun hl => pv_and q2 fun hne => ?_) fun hgd => ?_
  · have hlv : leafD v = true := by simpa using hl
    obtain ⟨l, hlast, hm⟩ := getLast_some (isEmpty_ne (by simpa using hne))
    obtain ⟨s, x, y, u, t, r, o, rfl⟩ := leaf_shape hlv
    obtain ⟨s2, x2, y2, u2, t2, r2, o2, e2⟩ := leaf_shape (hb l hm)
    rw [hlast]
    subst e2
    exact pv_e2 (x := .str s2) (y := .str s) (pv_e2 (pv_last (pv_var rfl) hlast) pv_c rfl) (pv_e2 (pv_var rfl) pv_c rfl) rfl
  · have hlv : leafD v = true := by
      cases hz : leafD v with
      | true => rfl
      | false => rw [hz] at hgd; simp at hgd
    have q3 : Pv (lcE endL [2] (e1 iterK (varE 1)) (nameG 2) yesE (bE (arK 1 f_hinge_of) (consA (varE 2) nilA))) (startE n_is_next_leaf [v, .tup bs]) c (.lst (bs.map hgOf)) :=
      pv_lc hgOf (pv_e1 (pv_var rfl) rfl) (fun z hz => ⟨_, rfl, pv_c, pv_call (pv_cons (pv_var rfl) pv_nil) rfl (h2 z c (hb z hz))⟩) (Nat.le_trans (gd_len hg) (by decide))
    have e : (bs.any fun l => eqD (hgOf l) (hgOf v)) = ((bs.map hgOf).any fun w => eqD w (hgOf v)) := by rw [List.any_map]; rfl
    rw [e]
    refine ret_of (pv_e2 (pv_call (pv_cons (pv_var rfl) pv_nil) rfl (h2 v c hlv)) q3 (in_lst true (n := 20) (m := 20) (gd_hg hlv) (gds_of fun d hd => ?_)))
    obtain ⟨z, hz, rfl⟩ := List.mem_map.mp hd
    exact gd_hg (hb z hz)
def houseD : D → Bool
  | .tup [a, b] => (wrong1 (some 7) nextLf a).isEmpty && (wrongL (some 8) nextW b).isEmpty
  | _ => false
def Sp_is_house_form (f : G.FnT) : Prop := ∀ v c, gd 20 v = true → f [v] c = some (.ok (.bl (houseD v)) c)
theorem rightLeaves {φ : Fns} {k : Nat} {c : Cells} {v : D} (hv : gd 20 v = true) (h : ∀ x bs, gd 20 x = true → gd 20 (.tup bs) = true → (∀ b ∈ bs, leafD b = true) → φ k [x, .tup bs] c = some (.ok (.bl (nextLf x bs)) c)) : RightAt φ k c (some 7) nextLf v := by
  rintro xs rfl i x hx hp _
  refine h x (xs.take i) (gd_up (gd_in hv x (List.mem_of_getElem? hx))) (gd_take hv) fun b hb => ?_
  obtain ⟨j, hj⟩ := List.mem_iff_getElem?.mp hb
  have hji : j < i := by
    have := len_pos_of hj
    rw [List.length_take] at this; omega
  rw [List.getElem?_take_of_lt hji] at hj
  have q := (hp j b hji hj).2
  unfold nextLf at q
  cases hz : leafD b with
  | true => rfl
  | false => rw [hz] at q; simp at q
theorem wrong1_gd {most : Option Int} {p : D → List D → Bool} {v : D} : gd 20 (.lst (wrong1 most p v)) = true := by
  unfold wrong1
  split
  · rfl
  · exact wrongL_gd
theorem sp_is_house_form {φ : Fns} {f_wrong_from_one f_is_tuple_of f_wrong_walls : G.FnT} {k : Nat} (h1 : Sp_wrong_from_one φ f_wrong_from_one) (h2 : Sp_is_tuple_of f_is_tuple_of) (h3 : Sp_wrong_walls f_wrong_walls) (h4 : Sp_is_next_leaf (φ k)) : Sp_is_house_form (arK 1 (runB finF n_is_house_form (b_is_house_form f_wrong_from_one f_is_tuple_of f_wrong_walls k))) := fun v c h => by
  refine (arK_eq rfl).trans (run_ret ?_)
  have q1 : Pv (bE (arK 2 f_is_tuple_of) (consA (varE 0) (consA (cE (.int 2)) nilA))) (startE n_is_house_form [v]) c (.bl (decide (tupLen v = some 2))) := pv_call (pv_cons (pv_var rfl) (pv_cons pv_c pv_nil)) rfl (h2 v 2 c (gd_nf h))
  by_cases ht : tupLen v = some 2
  · obtain ⟨xs, rfl, hl⟩ := tup_of ht
    obtain ⟨x, y, rfl⟩ := len2 hl
    have hx := gd_in h
    have gx : gd 20 x = true := gd_up (hx x (by simp))
    have gy : gd 20 y = true := gd_up (hx y (by simp))
    have e : houseD (.tup [x, y]) = (!((!decide (tupLen (.tup [x, y]) = some 2)) || !eqD (.lst (wrong1 (some 7) nextLf x)) (.lst [])) && eqD (.lst (wrongL (some 8) nextW y)) (.lst [])) := by
      simp only [houseD, ht, decide_true, Bool.not_true, Bool.false_or, Bool.not_not, eqD_nilL]
    rw [e]
    refine guard_of (pv_or (pv_not q1) fun _ => pv_e2 (pv_call (ds := [x, .int 7, .fn k]) (pv_cons (pv_e2 (pv_var rfl) pv_c rfl) (pv_cons pv_c (pv_cons pv_c pv_nil))) rfl (h1 x (some 7) k c nextLf gx (rightLeaves gx fun a bs q r s => h4 a bs c q r s))) (pv_lst pv_nil rfl) (ne_of (n := 20) (m := 1) wrong1_gd rfl)) fun _ => ret_of ?_
    exact pv_e2 (pv_call (pv_cons (pv_e2 (pv_var rfl) pv_c rfl) pv_nil) rfl (h3 y c gy)) (pv_lst pv_nil rfl) (eq_of (n := 20) (m := 1) wrongL_gd rfl)
  · have e : houseD v = false := by
      unfold houseD
      split
      · exact absurd rfl ht
      · rfl
    rw [e]
    rw [decide_eq_false ht] at q1
    exact guard_of (a := true) (b := false) (pv_or (b := false) (pv_not q1) (fun z => by cases z)) (fun z => by cases z)
end K59
set_option Elab.async false
set_option linter.all false
set_option maxRecDepth 100000
set_option maxHeartbeats 4000000
namespace K59
open PySem PySem.Spec PyProof.Rows L2 G
/-! ### frames -/
structure Fr where
  n : Str
  x : Int
  y : Int
  u : Int
  v : Int
def Fr.d (f : Fr) : D := .tup [.str f.n, .int f.x, .int f.y, .int f.u, .int f.v]
def Fr.wide (f : Fr) : Int := f.u - f.x + f.v - f.y
def Sp_wide_of (f : G.FnT) : Prop := ∀ (r : Fr) c, f [r.d] c = some (.ok (.int r.wide) c)
theorem sp_wide_of : Sp_wide_of (arK 1 (runB finF n_wide_of b_wide_of)) := fun r c => (arK_eq rfl).trans (run_ret rfl)
def frD : D → Bool
  | .tup [n, .int a, .int b, .int c, .int d] => (nameD n && [D.int a, .int b, .int c, .int d].all plc) && (!((!(a == c) && !(b == d)) || (decide (c < a) || decide (d < b))) && (decide (2 ≤ c - a + d - b) && decide (c - a + d - b ≤ 100)))
  | _ => false
def Sp_is_frame_form (f : G.FnT) : Prop := ∀ v c, gd 20 v = true → f [v] c = some (.ok (.bl (frD v)) c)
theorem pv_ch {op1 op2 : D → D → Cells → Option Out} {fa fb fc : SE} {env : Ev} {c : Cells} {x y z : D} {a b : Bool} (h1 : Pv fa env c x) (h2 : Pv fb env c y) (k : op1 x y c = some (.ok (.bl a) c)) (h3 : Pv fc env c z) (k2 : op2 y z c = some (.ok (.bl b) c)) : Pv (chE op1 op2 fa fb fc) env c (.bl (a && b)) := by
  show bindO (fa env c) (fun x c1 => bindO (fb env c1) fun y c2 => bindO (op1 x y c2) (ch2K op2 fc env y)) = _
  rw [show fa env c = _ from h1]
  show bindO (fb env c) _ = _
  rw [show fb env c = _ from h2]
  show bindO (op1 x y c) _ = _
  rw [k]
  cases a with
  | true =>
    show bindO (fc env c) _ = _
    rw [show fc env c = _ from h3]
    exact k2
  | false => rfl
theorem sp_is_frame_form {f_is_place_number f_is_name f_is_tuple_of f_wide_of : G.FnT} (h1 : Sp_is_place_number f_is_place_number) (h2 : Sp_is_name f_is_name) (h3 : Sp_is_tuple_of f_is_tuple_of) (h4 : Sp_wide_of f_wide_of) : Sp_is_frame_form (arK 1 (runB finF n_is_frame_form (b_is_frame_form f_is_place_number f_is_name f_is_tuple_of f_wide_of))) := fun v c h => by
  refine (arK_eq rfl).trans (run_ret ?_)
  have q1 : Pv (bE (arK 2 f_is_tuple_of) (consA (varE 0) (consA (cE (.int 5)) nilA))) (startE n_is_frame_form [v]) c (.bl (decide (tupLen v = some 5))) := pv_call (pv_cons (pv_var rfl) (pv_cons pv_c pv_nil)) rfl (h3 v 5 c (gd_nf h))
  by_cases ht : tupLen v = some 5
  · obtain ⟨xs, rfl, hl⟩ := tup_of ht
    obtain ⟨n, x, y, z, u, rfl⟩ := len5 hl
    have hx := gd_in h
    have q2 : Pv (bE (arK 1 f_is_name) (consA (e2 ixK (varE 0) (cE (.int 0))) nilA)) (startE n_is_frame_form [.tup [n, x, y, z, u]]) c (.bl (nameD n)) := pv_call (pv_cons (pv_e2 (pv_var rfl) pv_c rfl) pv_nil) rfl (h2 n c (gd_up (hx n (by simp))))
    have q3 := pv_all (it := e1 iterK (slE (varE 0) (some (cE (.int 1))) none)) (tg := nameG 1) (el := bE (arK 1 f_is_place_number) (consA (varE 1) nilA)) (env := startE n_is_frame_form [.tup [n, x, y, z, u]]) (c := c) (vs := [1]) (items := [x, y, z, u]) plc (pv_e1 (x := .tup [x, y, z, u]) rfl rfl)
      (fun t ht => ⟨_, rfl, pv_call (pv_cons (pv_var rfl) pv_nil) rfl (h1 t c (gd_nf (hx t (by simp at ht ⊢; rcases ht with e | e | e | e <;> simp [e]))))⟩) (by simp)
    have q4 := pv_or (pv_not q1) fun _ => pv_or (pv_not q2) fun _ => pv_not q3
    cases hb : nameD n && [x, y, z, u].all plc with
    | false =>
      have e : frD (.tup [n, x, y, z, u]) = (!((!decide (tupLen (.tup [n, x, y, z, u]) = some 5)) || (!nameD n || !([x, y, z, u].all plc))) && false) := by
        rw [Bool.and_false]
        unfold frD
        split
        · rename_i m a b c d he
          cases he
          rw [hb]; rfl
        · rfl
      rw [e]
      refine guard_of q4 fun z => ?_
      simp only [Bool.or_eq_false_iff, Bool.not_eq_false'] at z
      rw [z.2.1, z.2.2] at hb
      cases hb
    | true =>
      have hb2 := hb
      simp only [List.all_cons, List.all_nil, Bool.and_true, Bool.and_eq_true] at hb2
      obtain ⟨hn, k1, k2, k3, k4⟩ := hb2
      obtain ⟨a, rfl, _⟩ := plc_int k1
      obtain ⟨b, rfl, _⟩ := plc_int k2
      obtain ⟨d, rfl, _⟩ := plc_int k3
      obtain ⟨g, rfl, _⟩ := plc_int k4
      obtain ⟨s, rfl⟩ : ∃ s, n = .str s := by cases n <;> first | exact ⟨_, rfl⟩ | cases hn
      have e : frD (.tup [.str s, .int a, .int b, .int d, .int g]) = (!((!decide (tupLen (.tup [.str s, .int a, .int b, .int d, .int g]) = some 5)) || (!nameD (.str s) || !([D.int a, .int b, .int d, .int g].all plc))) && (!((!eqD (.int a) (.int d) && !eqD (.int b) (.int g)) || (decide (d < a) || decide (g < b))) && (decide (2 ≤ d - a + g - b) && decide (d - a + g - b ≤ 100)))) := by
        simp only [Bool.and_eq_true] at hb
        simp only [ht, decide_true, Bool.not_true, Bool.false_or, hb.1, hb.2, Bool.not_false, Bool.true_and, Bool.or_self]
        show ((nameD (.str s) && _) && _) = _
        rw [hb.1, hb.2]
        rfl
      rw [e]
      refine guard_of q4 fun _ => guard_of (pv_or (pv_and (pv_e2 (pv_e2 (pv_var rfl) pv_c rfl) (pv_e2 (pv_var rfl) pv_c rfl) (ne_of (n := 0) (m := 0) rfl rfl)) fun _ => pv_e2 (pv_e2 (pv_var rfl) pv_c rfl) (pv_e2 (pv_var rfl) pv_c rfl) (ne_of (n := 0) (m := 0) rfl rfl)) fun _ => pv_or (pv_e2 (pv_e2 (pv_var rfl) pv_c rfl) (pv_e2 (pv_var rfl) pv_c rfl) rfl) fun _ => pv_e2 (pv_e2 (pv_var rfl) pv_c rfl) (pv_e2 (pv_var rfl) pv_c rfl) rfl) fun _ => ret_of ?_
      exact pv_ch (op1 := leK) (op2 := leK) pv_c (pv_call (pv_cons (pv_var rfl) pv_nil) rfl (h4 ⟨s, a, b, d, g⟩ c)) rfl pv_c rfl
  · have e : frD v = false := by
      unfold frD
      split
      · exact absurd rfl ht
      · rfl
    rw [e]
    rw [decide_eq_false ht] at q1
    exact guard_of (a := true) (b := false) (pv_or (b := false) (pv_not q1) (fun z => by cases z)) (fun z => by cases z)
def touch (r s : Fr) : Bool := !(decide (s.u < r.x) || decide (r.u < s.x)) && (decide (r.y ≤ s.v) && decide (s.y ≤ r.v))
def Sp_do_frames_touch (f : G.FnT) : Prop := ∀ (r s : Fr) c, f [r.d, s.d] c = some (.ok (.bl (touch r s)) c)
theorem sp_do_frames_touch : Sp_do_frames_touch (arK 2 (runB finF n_do_frames_touch b_do_frames_touch)) := fun r s c =>
  (arK_eq rfl).trans (run_ret (guard_of (pv_or (pv_e2 (pv_e2 (x := r.d) (pv_var rfl) pv_c rfl) (pv_e2 (x := s.d) (pv_var rfl) pv_c rfl) rfl) fun _ => pv_e2 (pv_e2 (x := s.d) (pv_var rfl) pv_c rfl) (pv_e2 (x := r.d) (pv_var rfl) pv_c rfl) rfl) fun _ => ret_of (pv_and (pv_e2 (pv_e2 (x := r.d) (pv_var rfl) pv_c rfl) (pv_e2 (x := s.d) (pv_var rfl) pv_c rfl) rfl) fun _ => pv_e2 (pv_e2 (x := s.d) (pv_var rfl) pv_c rfl) (pv_e2 (x := r.d) (pv_var rfl) pv_c rfl) rfl)))
theorem lets_ok : ∀ k ∈ LETS.cps.toList, k < 0x110000 := by decide +kernel
theorem strOk_let {s : Str} (h : wordS s = true) : PyData.strOk s = true := by
  unfold wordS at h
  simp only [Bool.and_eq_true] at h
  have h2 := List.all_eq_true.mp h.2
  unfold PyData.strOk
  rw [← Array.all_toList]
  exact List.all_eq_true.mpr fun k hk => decide_eq_true (lets_ok k (of_decide_eq_true (h2 k hk)))
theorem gd_name {s : Str} {n : Nat} (h : nameS s = true) : gd n (.str s) = true := by
  have : (PyData.strOk s && decide (s.length ≤ 10000)) = true := by
    unfold nameS at h
    simp only [Bool.and_eq_true, decide_eq_true_eq] at h ⊢
    exact ⟨strOk_let h.1, by omega⟩
  cases n <;> exact this
theorem fr_name {f : Fr} (h : frD f.d = true) : nameS f.n = true := by
  unfold Fr.d frD at h
  simp only [Bool.and_eq_true] at h
  exact h.1.1
theorem gd_fr {f : Fr} (h : frD f.d = true) : gd 1 f.d = true := by
  have h2 : gd 0 (.str f.n) = true := gd_name (fr_name h)
  show (gds 0 [D.str f.n, D.int f.x, D.int f.y, D.int f.u, D.int f.v] && true) = true
  simp only [gds, h2, Bool.and_self, Bool.true_and, Bool.and_true]
  rfl
/-! ### rows of frames -/
def frs (bs : List Fr) : D := .tup (bs.map Fr.d)
theorem gd_frs {bs : List Fr} (h : ∀ b ∈ bs, frD b.d = true) (hl : bs.length ≤ 100) : gd 20 (frs bs) = true := by
  show (gds 19 (bs.map Fr.d) && decide ((bs.map Fr.d).length ≤ 10000)) = true
  rw [gds_of fun d hd => by
    obtain ⟨b, hb, rfl⟩ := List.mem_map.mp hd
    exact gd_up (gd_fr (h b hb))]
  simp; omega
def nextOk (r : Fr) (bs : List Fr) : Prop := frD r.d = true ∧ (∀ l, bs.getLast? = some l → l.n.cps.toList < r.n.cps.toList) ∧ ∀ b ∈ bs, touch b r = false
theorem not_lt_lt {a b : List Nat} (h : a < b) : ¬ b < a := fun g => absurd (List.lt_trans h g) (List.lt_irrefl a)
def Sp_is_next_frame (f : G.FnT) : Prop := ∀ (r : Fr) bs c, nextOk r bs → (∀ b ∈ bs, frD b.d = true) → bs.length ≤ 100 → f [r.d, frs bs] c = some (.ok (.bl true) c)
theorem sp_is_next_frame {f_is_frame_form f_do_frames_touch : G.FnT} (h1 : Sp_is_frame_form f_is_frame_form) (h2 : Sp_do_frames_touch f_do_frames_touch) : Sp_is_next_frame (arK 2 (runB finF n_is_next_frame (b_is_next_frame f_is_frame_form f_do_frames_touch))) := fun r bs c hn hb hl => by
  refine (arK_eq rfl).trans (run_ret ?_)
  have q1 : Pv (bE (arK 1 f_is_frame_form) (consA (varE 0) nilA)) (startE n_is_next_frame [r.d, frs bs]) c (.bl true) := by
    rw [← hn.1]
    exact pv_call (pv_cons (pv_var rfl) pv_nil) rfl (h1 _ c (gd_up (gd_fr hn.1)))
  have q2 : Pv (e2 neK (varE 1) (e1 tupK nilA)) (startE n_is_next_frame [r.d, frs bs]) c (.bl (!(bs.map Fr.d).isEmpty)) := by
    rw [← eqD_nil]
    exact pv_e2 (pv_var rfl) (pv_tup pv_nil rfl) (ne_of (n := 20) (m := 1) (gd_frs hb hl) rfl)
  have q3 : Pv (andE (e2 neK (varE 1) (e1 tupK nilA)) (e2 geK (e2 ixK (e2 ixK (varE 1) (e1 negK (cE (.int 1)))) (cE (.int 0))) (e2 ixK (varE 0) (cE (.int 0))))) (startE n_is_next_frame [r.d, frs bs]) c (.bl (!(bs.map Fr.d).isEmpty && false)) := pv_and q2 fun hne => by
    obtain ⟨l, hlast, hm⟩ := getLast_some (bs := bs.map Fr.d) (isEmpty_ne (by simpa using hne))
    obtain ⟨b, hb2, rfl⟩ : ∃ b, bs.getLast? = some b ∧ b.d = l := by
      rw [List.getLast?_map] at hlast
      exact Option.map_eq_some_iff.mp hlast
    have e : (!(decide (b.n.cps.toList < r.n.cps.toList))) = false := by
      rw [decide_eq_true (hn.2.1 b hb2)]; rfl
    rw [← e]
    exact pv_e2 (x := .str b.n) (y := .str r.n) (pv_e2 (pv_last (pv_var rfl) hlast) pv_c rfl) (pv_e2 (x := r.d) (pv_var rfl) pv_c rfl) rfl
  have q4 := pv_any (it := e1 iterK (varE 1)) (tg := nameG 2) (el := bE (arK 2 f_do_frames_touch) (consA (varE 2) (consA (varE 0) nilA))) (env := startE n_is_next_frame [r.d, frs bs]) (c := c) (vs := [2]) (items := bs.map Fr.d) (fun _ => false) (pv_e1 (x := frs bs) (pv_var rfl) rfl)
    (fun t ht => by
      obtain ⟨b, hb2, rfl⟩ := List.mem_map.mp ht
      refine ⟨_, rfl, ?_⟩
      rw [← hn.2.2 b hb2]
      exact pv_call (pv_cons (pv_var rfl) (pv_cons (pv_var rfl) pv_nil)) rfl (h2 b r c)) (by simp; omega)
  have e : (bs.map Fr.d).any (fun _ => false) = false := by simp
  rw [e] at q4
  have := guard_of (a := !true || (!(bs.map Fr.d).isEmpty && false)) (b := !false) (pv_or (pv_not q1) fun _ => q3) fun _ => ret_of (pv_not q4)
  rw [show (!(!true || (!(bs.map Fr.d).isEmpty && false)) && !false) = true by simp] at this
  exact this
/-- frames that stand as they should -/
def goodFs (bs : List Fr) : Prop := bs ≠ [] ∧ bs.length ≤ 6 ∧ ∀ (i : Nat) (r : Fr), bs[i]? = some r → nextOk r (bs.take i)
theorem good_mem {bs : List Fr} (h : goodFs bs) : ∀ b ∈ bs, frD b.d = true := fun b hb => by
  obtain ⟨i, hi⟩ := List.mem_iff_getElem?.mp hb
  exact (h.2.2 i b hi).1
theorem frs_get {bs : List Fr} {i : Nat} {x : D} (h : (bs.map Fr.d)[i]? = some x) : ∃ b, bs[i]? = some b ∧ x = b.d := by
  rw [List.getElem?_map] at h
  obtain ⟨b, h1, h2⟩ := Option.map_eq_some_iff.mp h
  exact ⟨b, h1, h2.symm⟩
def Sp_wrong_frames (f : G.FnT) : Prop := ∀ bs c, goodFs bs → f [frs bs] c = some (.ok (.lst []) c)
theorem sp_wrong_frames {φ : Fns} {f_wrong_from_one : G.FnT} {k : Nat} (h1 : Sp_wrong_from_one φ f_wrong_from_one) (h2 : Sp_is_next_frame (φ k)) : Sp_wrong_frames (arK 1 (runB finF n_wrong_frames (b_wrong_frames f_wrong_from_one k))) := fun bs c h => by
  refine (arK_eq rfl).trans (run_ret (ret_of ?_))
  have w : wrongL (some 6) (fun _ _ => true) (frs bs) = [] := wrongL_nil.mpr ⟨_, rfl, fun i x hx => ⟨by
    have := len_pos_of hx
    rw [List.length_map] at this
    have := h.2.1
    intro e
    have := Option.some.inj e
    omega, rfl⟩⟩
  have w1 : wrong1 (some 6) (fun _ _ => true) (frs bs) = [] := by
    unfold wrong1
    rw [w]
    cases bs with
    | nil => exact absurd rfl h.1
    | cons b bs => rfl
  rw [← w1]
  refine pv_call (ds := [frs bs, .int 6, .fn k]) (pv_cons (pv_var rfl) (pv_cons pv_c (pv_cons pv_c pv_nil))) rfl (h1 (frs bs) (some 6) k c _ (gd_frs (good_mem h) (by have := h.2.1; omega)) ?_)
  intro xs e i x hx _ _
  cases e
  obtain ⟨b, hb, rfl⟩ := frs_get hx
  rw [← List.map_take]
  exact h2 b (bs.take i) c (h.2.2 i b hb) (fun a ha => good_mem h a (List.mem_of_mem_take ha)) (by rw [List.length_take]; have := h.2.1; omega)
/-! ### hangings -/
def sideS (s : Bool) : Str := if s then "left" else "right"
def postS (p : Bool) : Str := if p then "first" else "second"
abbrev Hg := Bool × Bool
def hgD (h : Hg) : D := .tup [.str (postS h.1), .str (sideS h.2)]
def hgs (hs : List Hg) : D := .tup (hs.map hgD)
theorem gd_side (s : Bool) : gd 0 (.str (sideS s)) = true := by cases s <;> decide +kernel
theorem gd_post (p : Bool) : gd 0 (.str (postS p)) = true := by cases p <;> decide +kernel
theorem turn_side (s : Bool) : oneOf [.str "left", .str "right"] (.str (sideS s)) = true := by cases s <;> decide +kernel
theorem post_one (p : Bool) : oneOf [.str "first", .str "second"] (.str (postS p)) = true := by cases p <;> decide +kernel
def Sp_is_hanging (f : G.FnT) : Prop := ∀ (h : Hg) c, f [hgD h] c = some (.ok (.bl true) c)
theorem gd_hgD (h : Hg) : gd 1 (hgD h) = true := by
  obtain ⟨p, s⟩ := h
  cases p <;> cases s <;> decide +kernel
theorem sp_is_hanging {f_is_one_of f_is_tuple_of : G.FnT} (h1 : Sp_is_one_of f_is_one_of) (h2 : Sp_is_tuple_of f_is_tuple_of) : Sp_is_hanging (arK 1 (runB finF n_is_hanging (b_is_hanging f_is_one_of f_is_tuple_of))) := fun h c => by
  refine (arK_eq rfl).trans (run_ret (ret_of ?_))
  refine pv_and (a := true) (b := true && true) (pv_call (pv_cons (pv_var rfl) (pv_cons pv_c pv_nil)) rfl (h2 (hgD h) 2 c rfl)) fun _ => pv_and ?_ fun _ => ?_
  · rw [← post_one h.1]
    exact pv_call (pv_cons (pv_e2 (x := hgD h) (pv_var rfl) pv_c rfl) (pv_cons pv_c pv_nil)) rfl (h1 _ _ c (gd_up (gd_post h.1)) (by decide +kernel))
  · rw [← turn_side h.2]
    exact pv_call (pv_cons (pv_e2 (x := hgD h) (pv_var rfl) pv_c rfl) (pv_cons pv_c pv_nil)) rfl (h1 _ _ c (gd_up (gd_side h.2)) (by decide +kernel))
theorem sp_hangings_lam {f_is_hanging : G.FnT} (h1 : Sp_is_hanging f_is_hanging) {h : Hg} {b : D} {c : Cells} : runL finF n_wrong_hangings_lam0 2 (e_wrong_hangings_lam0 f_is_hanging) [hgD h, b] c = some (.ok (.bl true) c) :=
  runL_ret rfl (pv_call (pv_cons (pv_var rfl) pv_nil) rfl (h1 h c))
def Sp_wrong_for_all (φ : Fns) (f : G.FnT) : Prop := ∀ xs k c, gd 20 (.tup xs) = true → (∀ x ∈ xs, ∀ b, φ k [x, b] c = some (.ok (.bl true) c)) → f [.tup xs, .int xs.length, .fn k] c = some (.ok (.lst []) c)
theorem eqD_int {i : Int} : eqD (.int i) (.int i) = true := by
  show (i == i) = true
  simp
theorem sp_wrong_for_all {φ : Fns} {f_wrong_at : G.FnT} (h1 : Sp_wrong_at φ f_wrong_at) : Sp_wrong_for_all φ (arK 3 (runB finF n_wrong_for_all (b_wrong_for_all f_wrong_at))) := fun xs k c hg hk => by
  refine (arK_eq rfl).trans (run_ret ?_)
  have w : wrongL none (fun _ _ => true) (.tup xs) = [] := wrongL_nil.mpr ⟨_, rfl, fun i x hx => ⟨by simp, rfl⟩⟩
  have q1 : Pv (bE (arK 3 f_wrong_at) (consA (varE 0) (consA (cE .non) (consA (varE 2) nilA)))) (startE n_wrong_for_all [.tup xs, .int xs.length, .fn k]) c (.lst []) := by
    rw [← w]
    refine pv_call (ds := [.tup xs, .non, .fn k]) (pv_cons (pv_var rfl) (pv_cons pv_c (pv_cons (pv_var rfl) pv_nil))) rfl (h1 (.tup xs) none k c _ hg ?_)
    intro ys e i x hx _ _
    cases e
    exact hk x (List.mem_of_getElem? hx) _
  refine (seq_nx (asg_of q1 rfl)).trans ?_
  refine (seq_nx (e1 := [some (.tup xs), some (.int xs.length), some (.fn k), some (.lst [])]) ((if_of (a := true && !eqD (.int xs.length) (.int xs.length)) (pv_and (pv_e2 (pv_var rfl) (pv_lst pv_nil rfl) (eq_of (n := 1) (m := 1) rfl rfl)) fun _ => pv_e2 (pv_b (pv_cons (x := .tup xs) (pv_var rfl) pv_nil) rfl) (pv_var rfl) (ne_of (n := 0) (m := 0) rfl rfl))).trans ?_)).trans (ret_of (pv_var rfl))
  rw [eqD_int]
  rfl
def Sp_wrong_hangings (f : G.FnT) : Prop := ∀ (bs : List Fr) (hs : List Hg) c, bs.length = hs.length → hs.length ≤ 100 → f [frs bs, hgs hs] c = some (.ok (.lst []) c)
theorem gd_hgs {hs : List Hg} (hl : hs.length ≤ 100) : gd 20 (hgs hs) = true := by
  show (gds 19 (hs.map hgD) && decide ((hs.map hgD).length ≤ 10000)) = true
  rw [gds_of fun d hd => by
    obtain ⟨b, hb, rfl⟩ := List.mem_map.mp hd
    exact gd_up (gd_hgD b)]
  simp; omega
theorem sp_wrong_hangings {φ : Fns} {f_wrong_for_all : G.FnT} {k : Nat} (h1 : Sp_wrong_for_all φ f_wrong_for_all) (h2 : ∀ (h : Hg) b c, φ k [hgD h, b] c = some (.ok (.bl true) c)) : Sp_wrong_hangings (arK 2 (runB finF n_wrong_hangings (b_wrong_hangings f_wrong_for_all k))) := fun bs hs c hl hm => by
  refine (arK_eq rfl).trans (run_ret (ret_of ?_))
  have e : ((bs.map Fr.d).length : Int) = ((hs.map hgD).length : Int) := by simp [hl]
  refine pv_call (ds := [hgs hs, .int (hs.map hgD).length, .fn k]) (pv_cons (pv_var rfl) (pv_cons (pv_b (ds := [frs bs]) (pv_cons (pv_var rfl) pv_nil) ?_) (pv_cons pv_c pv_nil))) rfl (h1 (hs.map hgD) k c (gd_hgs hm) ?_)
  · show okd (.int (bs.map Fr.d).length) c = _
    rw [e]; rfl
  · intro x hx b
    obtain ⟨h, _, rfl⟩ := List.mem_map.mp hx
    exact h2 h b c
/-! ### leaves that hang -/
def wayD (w : Bool) : D := if w then .tup [.int 1, .int 0] else .tup [.int 0, .int 1]
def Fr.w (f : Fr) : Bool := decide (f.x < f.u)
def Sp_heading_along (f : G.FnT) : Prop := ∀ (r : Fr) c, f [r.d] c = some (.ok (wayD r.w) c)
theorem sp_heading_along : Sp_heading_along (arK 1 (runB finF n_heading_along b_heading_along)) := fun r c =>
  (arK_eq rfl).trans (run_ret (ret_of (pv_if (pv_e2 (pv_e2 (x := r.d) (pv_var rfl) pv_c rfl) (pv_e2 (x := r.d) (pv_var rfl) pv_c rfl) rfl) (fun _ => pv_tup (pv_cons pv_c (pv_cons pv_c pv_nil)) rfl) (fun _ => pv_tup (pv_cons pv_c (pv_cons pv_c pv_nil)) rfl))))
def v2 (a b : Int) : D := .tup [.int a, .int b]
def Sp_quarter_left (f : G.FnT) : Prop := ∀ a b c, f [v2 a b] c = some (.ok (v2 (0 - b) a) c)
theorem sp_quarter_left : Sp_quarter_left (arK 1 (runB finF n_quarter_left b_quarter_left)) := fun a b c => (arK_eq rfl).trans (run_ret rfl)
def Sp_opposite (f : G.FnT) : Prop := ∀ a b c, f [v2 a b] c = some (.ok (v2 (0 - a) (0 - b)) c)
theorem sp_opposite : Sp_opposite (arK 1 (runB finF n_opposite b_opposite)) := fun a b c => (arK_eq rfl).trans (run_ret rfl)
theorem side_eq (s : Bool) : eqD (.str (sideS s)) (.str "left") = s := by cases s <;> decide +kernel
theorem post_eq (p : Bool) : eqD (.str (postS p)) (.str "first") = p := by cases p <;> decide +kernel
def Sp_other_turn (f : G.FnT) : Prop := ∀ s c, f [.str (sideS s)] c = some (.ok (.str (sideS !s)) c)
theorem sp_other_turn : Sp_other_turn (arK 1 (runB finF n_other_turn b_other_turn)) := fun s c => by
  refine (arK_eq rfl).trans (run_ret (ret_of ?_))
  have e : D.str (sideS !s) = if eqD (.str (sideS s)) (.str "left") = true then .str "right" else .str "left" := by
    rw [side_eq]
    cases s <;> rfl
  rw [e]
  exact pv_if (pv_e2 (pv_var rfl) pv_c (eq_of (n := 0) (m := 0) (gd_side s) (by decide +kernel))) (fun _ => pv_c) (fun _ => pv_c)
def wx (w : Bool) : Int := if w then 1 else 0
def wy (w : Bool) : Int := if w then 0 else 1
def openD (w s : Bool) : D := if s then v2 (0 - wy w) (wx w) else v2 (0 - (0 - wy w)) (0 - wx w)
def hungD (r : Fr) (p s : Bool) : D := if p then .tup [.str r.n, .int r.x, .int r.y, .int (r.wide - 1), wayD r.w, .str (sideS s), openD r.w s]
  else .tup [.str r.n, .int r.u, .int r.v, .int (r.wide - 1), v2 (0 - wx r.w) (0 - wy r.w), .str (sideS !s), openD r.w s]
theorem way_v2 (w : Bool) : wayD w = v2 (wx w) (wy w) := by cases w <;> rfl
theorem par2_of {f : SE} {env : Ev} {c : Cells} {i j : Nat} {x y : D} (h : Pv f env c (.tup [x, y])) : par2S i j f env c = some (.nx ((env.set i (some x)).set j (some y)) c) := by
  show bindS (f env c) _ = _
  rw [show f env c = _ from h]; rfl
def Sp_hung_leaf (f : G.FnT) : Prop := ∀ (r : Fr) p s c, f [r.d, .str (postS p), .str (sideS s)] c = some (.ok (hungD r p s) c)
theorem sp_hung_leaf {f_wide_of f_heading_along f_quarter_left f_opposite f_other_turn : G.FnT} (h1 : Sp_wide_of f_wide_of) (h2 : Sp_heading_along f_heading_along) (h3 : Sp_quarter_left f_quarter_left) (h4 : Sp_opposite f_opposite) (h5 : Sp_other_turn f_other_turn) : Sp_hung_leaf (arK 3 (runB finF n_hung_leaf (b_hung_leaf f_wide_of f_heading_along f_quarter_left f_opposite f_other_turn))) := fun r p s c => by
  refine (arK_eq rfl).trans (run_ret ?_)
  refine (seq_nx (par2_of (pv_cons (pv_call (pv_cons (x := r.d) (pv_var rfl) pv_nil) rfl (h2 r c)) (pv_cons (pv_e2 (x := .int r.wide) (pv_call (pv_cons (x := r.d) (pv_var rfl) pv_nil) rfl (h1 r c)) pv_c rfl) pv_nil)))).trans ?_
  have e3 : openD r.w s = if eqD (.str (sideS s)) (.str "left") = true then v2 (0 - wy r.w) (wx r.w) else v2 (0 - (0 - wy r.w)) (0 - wx r.w) := by
    rw [side_eq]; rfl
  have q : Pv (bE (arK 1 f_quarter_left) (consA (varE 3) nilA)) [some r.d, some (.str (postS p)), some (.str (sideS s)), some (wayD r.w), some (.int (r.wide - 1)), none] c (v2 (0 - wy r.w) (wx r.w)) := pv_call (pv_cons (pv_var rfl) pv_nil) rfl (by rw [way_v2]; exact h3 _ _ c)
  refine (seq_nx (e1 := [some r.d, some (.str (postS p)), some (.str (sideS s)), some (wayD r.w), some (.int (r.wide - 1)), some (openD r.w s)]) (asg_of (d := openD r.w s) (by
    rw [e3]
    exact pv_if (pv_e2 (x := .str (sideS s)) (pv_var rfl) pv_c (eq_of (n := 0) (m := 0) (gd_side s) (by decide +kernel))) (fun _ => q) (fun _ => pv_call (pv_cons q pv_nil) rfl (h4 _ _ c))) rfl)).trans ?_
  have i0 := if_of (t := e2 eqK (varE 1) (cE (.str "first"))) (s := retS (e1 tupK (consA (e2 ixK (varE 0) (cE (.int 0))) (consA (e2 ixK (varE 0) (cE (.int 1))) (consA (e2 ixK (varE 0) (cE (.int 2))) (consA (varE 4) (consA (varE 3) (consA (varE 2) (consA (varE 5) (nilA)))))))))) (u := skipS) (env := [some r.d, some (.str (postS p)), some (.str (sideS s)), some (wayD r.w), some (.int (r.wide - 1)), some (openD r.w s)]) (c := c)
    (pv_e2 (x := .str (postS p)) (pv_var rfl) pv_c (eq_of (n := 0) (m := 0) (gd_post p) (by decide +kernel)))
  rw [post_eq] at i0
  cases p with
  | true =>
    refine seq_ret (i0.trans (ret_of (pv_tup (pv_cons (pv_e2 (x := r.d) (pv_var rfl) pv_c rfl) (pv_cons (pv_e2 (x := r.d) (pv_var rfl) pv_c rfl) (pv_cons (pv_e2 (x := r.d) (pv_var rfl) pv_c rfl) (pv_cons (pv_var rfl) (pv_cons (pv_var rfl) (pv_cons (pv_var rfl) (pv_cons (pv_var rfl) pv_nil))))))) rfl)))
  | false =>
    refine (seq_nx i0).trans (ret_of (pv_tup (pv_cons (pv_e2 (x := r.d) (pv_var rfl) pv_c rfl) (pv_cons (pv_e2 (x := r.d) (pv_var rfl) pv_c rfl) (pv_cons (pv_e2 (x := r.d) (pv_var rfl) pv_c rfl) (pv_cons (pv_var rfl) (pv_cons (pv_call (ds := [wayD r.w]) (pv_cons (pv_var rfl) pv_nil) rfl (by rw [way_v2]; exact h4 _ _ c)) (pv_cons (pv_call (pv_cons (pv_var rfl) pv_nil) rfl (h5 s c)) (pv_cons (pv_var rfl) pv_nil))))))) rfl))
def Sp_hung_by (f : G.FnT) : Prop := ∀ (r : Fr) (h : Hg) c, f [r.d, hgD h] c = some (.ok (hungD r h.1 h.2) c)
theorem sp_hung_by {f_hung_leaf : G.FnT} (h1 : Sp_hung_leaf f_hung_leaf) : Sp_hung_by (arK 2 (runB finF n_hung_by (b_hung_by f_hung_leaf))) := fun r h c => by
  refine (arK_eq rfl).trans (run_ret ?_)
  refine (seq_nx (e1 := [some r.d, some (hgD h), some (.str (postS h.1)), some (.str (sideS h.2))]) (asg_of (d := hgD h) (pv_var rfl) rfl)).trans (ret_of ?_)
  exact pv_call (pv_cons (pv_var rfl) (pv_cons (pv_var rfl) (pv_cons (pv_var rfl) pv_nil))) rfl (h1 r h.1 h.2 c)
def zipH : List Fr → List Hg → List D
  | r :: rs, h :: hs => hungD r h.1 h.2 :: zipH rs hs
  | _, _ => []
theorem zip_items : ∀ (bs : List Fr) (hs : List Hg), zipD (bs.map Fr.d) (hs.map hgD) = (bs.zip hs).map fun q => G.pairD q.1.d (hgD q.2)
  | [], _ => by simp [zipD]
  | _ :: _, [] => by simp [zipD]
  | r :: rs, h :: hs => by
    show G.pairD r.d (hgD h) :: zipD (rs.map Fr.d) (hs.map hgD) = _
    rw [zip_items rs hs]
    rfl
theorem zip_leaf : ∀ (bs : List Fr) (hs : List Hg), zipH bs hs = (bs.zip hs).map fun q => hungD q.1 q.2.1 q.2.2
  | [], _ => by simp [zipH]
  | _ :: _, [] => by simp [zipH]
  | r :: rs, h :: hs => by simp only [zipH, List.zip_cons_cons, List.map_cons, zip_leaf rs hs]
def lvs (bs : List Fr) (hs : List Hg) : D := .tup ((bs.zip hs).map fun q => hungD q.1 q.2.1 q.2.2)
theorem lc_of {it : SE} {tg : Tg} {el : SE} {env : Ev} {c : Cells} {vs : List Nat} {α : Type} (l : List α) (src fn : α → D) (hi : Pv it env c (.tup (l.map src))) (h : ∀ a ∈ l, ∃ e1, tg (src a) (wipeE env vs) c = some (e1, c) ∧ Pv el e1 c (fn a)) (hl : l.length ≤ 100000) :
    Pv (lcE endL vs it tg yesE el) env c (.lst (l.map fn)) := by
  have go : ∀ (l : List α) (acc : List D), (∀ a ∈ l, ∃ e1, tg (src a) (wipeE env vs) c = some (e1, c) ∧ Pv el e1 c (fn a)) → acc.length + l.length ≤ 100000 → lcL tg yesE el (wipeE env vs) (l.map src) acc c = some (acc ++ l.map fn, c) := by
    intro l
    induction l with
    | nil => intro acc _ _; simp [lcL]
    | cons x xs ih =>
      intro acc h hl
      obtain ⟨e1, h1, h3⟩ := h x (by simp)
      have st : lcStep tg yesE el (wipeE env vs) (src x) acc c = some (acc ++ [fn x], c) := by
        unfold lcStep
        rw [h1]
        simp only [show yesE e1 c = _ from pv_c, show el e1 c = _ from h3]
        exact if_pos (decide_eq_true (by simp at hl; omega))
      show (match lcStep tg yesE el (wipeE env vs) (src x) acc c with | some (acc1, c1) => lcL tg yesE el (wipeE env vs) (xs.map src) acc1 c1 | none => none) = _
      rw [st]
      show lcL tg yesE el (wipeE env vs) (xs.map src) (acc ++ [fn x]) c = _
      rw [ih (acc ++ [fn x]) (fun y hy => h y (by simp [hy])) (by simp at hl ⊢; omega)]
      simp
  show bindO (it env c) (lcK endL vs tg yesE el env) = _
  rw [show it env c = _ from hi]
  show (match lcL tg yesE el (wipeE env vs) (l.map src) [] c with | some (acc, c1) => endL acc c1 | none => none) = _
  rw [go l [] h (by simpa using hl)]
  simp [endL]
def Sp_all_hung (f : G.FnT) : Prop := ∀ (bs : List Fr) (hs : List Hg) c, bs.length ≤ 100 → f [frs bs, hgs hs] c = some (.ok (lvs bs hs) c)
theorem sp_all_hung {f_hung_by : G.FnT} (h1 : Sp_hung_by f_hung_by) : Sp_all_hung (arK 2 (runB finF n_all_hung (b_all_hung f_hung_by))) := fun bs hs c hl => by
  refine (arK_eq rfl).trans (run_ret (ret_of ?_))
  refine pv_b (pv_cons (lc_of (bs.zip hs) (fun q => G.pairD q.1.d (hgD q.2)) (fun q => hungD q.1 q.2.1 q.2.2) (pv_e1 (pv_cons (x := frs bs) (pv_var rfl) (pv_cons (x := hgs hs) (pv_var rfl) pv_nil)) ?_) (fun q _ => ⟨_, rfl, pv_call (pv_cons (pv_var rfl) (pv_cons (pv_var rfl) pv_nil)) rfl (h1 q.1 q.2 c)⟩) (by rw [List.length_zip]; omega)) pv_nil) rfl
  show some (Out.ok (.tup (zipD (bs.map Fr.d) (hs.map hgD))) c) = _
  rw [zip_items]
/-! ### checks that find nothing -/
theorem if_nx {t : SE} {s : SS} {env : Ev} {c : Cells} (h : Pv t env c (.bl true)) : ifS (notE t) s skipS env c = some (.nx env c) := (if_of (pv_not h)).trans rfl
def Sp_check_frame (f : G.FnT) : Prop := ∀ (r : Fr) c, frD r.d = true → f [r.d] c = some (.ok .non c)
theorem sp_check_frame {f_is_frame_form : G.FnT} (h1 : Sp_is_frame_form f_is_frame_form) : Sp_check_frame (arK 1 (runB finF n_check_frame (b_check_frame f_is_frame_form))) := fun r c h => by
  refine (arK_eq rfl).trans (run_nx (if_nx ?_))
  rw [← h]
  exact pv_call (pv_cons (pv_var rfl) pv_nil) rfl (h1 _ c (gd_up (gd_fr h)))
def Sp_check_post (f : G.FnT) : Prop := ∀ p c, f [.str (postS p)] c = some (.ok .non c)
theorem sp_check_post {f_is_one_of : G.FnT} (h1 : Sp_is_one_of f_is_one_of) : Sp_check_post (arK 1 (runB finF n_check_post (b_check_post f_is_one_of))) := fun p c => by
  refine (arK_eq rfl).trans (run_nx (if_nx ?_))
  rw [← post_one p]
  exact pv_call (pv_cons (pv_var rfl) (pv_cons pv_c pv_nil)) rfl (h1 _ _ c (gd_up (gd_post p)) (by decide +kernel))
def Sp_check_turn (f : G.FnT) : Prop := ∀ s c, f [.str (sideS s)] c = some (.ok .non c)
theorem sp_check_turn {f_is_one_of : G.FnT} (h1 : Sp_is_one_of f_is_one_of) : Sp_check_turn (arK 1 (runB finF n_check_turn (b_check_turn f_is_one_of))) := fun s c => by
  refine (arK_eq rfl).trans (run_nx (if_nx ?_))
  rw [← turn_side s]
  exact pv_call (pv_cons (pv_var rfl) (pv_cons pv_c pv_nil)) rfl (h1 _ _ c (gd_up (gd_side s)) (by decide +kernel))
def Sp_check_frames (f : G.FnT) : Prop := ∀ bs c, goodFs bs → f [frs bs] c = some (.ok .non c)
theorem sp_check_frames {f_wrong_frames : G.FnT} (h1 : Sp_wrong_frames f_wrong_frames) : Sp_check_frames (arK 1 (runB finF n_check_frames (b_check_frames f_wrong_frames))) := fun bs c h =>
  (arK_eq rfl).trans (run_nx ((for_of (items := []) (pv_e1 (x := .lst []) (pv_call (pv_cons (pv_var rfl) pv_nil) rfl (h1 bs c h)) rfl)).trans rfl))
def Sp_check_hangings (f : G.FnT) : Prop := ∀ bs hs c, goodFs bs → bs.length = hs.length → f [frs bs, hgs hs] c = some (.ok .non c)
theorem sp_check_hangings {f_check_frames f_wrong_hangings : G.FnT} (h1 : Sp_check_frames f_check_frames) (h2 : Sp_wrong_hangings f_wrong_hangings) : Sp_check_hangings (arK 2 (runB finF n_check_hangings (b_check_hangings f_check_frames f_wrong_hangings))) := fun bs hs c h hl =>
  (arK_eq rfl).trans (run_nx ((seq_nx (drop_of (pv_call (pv_cons (pv_var rfl) pv_nil) rfl (h1 bs c h)))).trans ((for_of (items := []) (pv_e1 (x := .lst []) (pv_call (pv_cons (pv_var rfl) (pv_cons (pv_var rfl) pv_nil)) rfl (h2 bs hs c hl (by have := h.2.1; omega))) rfl)).trans rfl)))
def Sp_hanging_leaf (f : G.FnT) : Prop := ∀ (r : Fr) p s c, frD r.d = true → f [r.d, .str (postS p), .str (sideS s)] c = some (.ok (hungD r p s) c)
theorem sp_hanging_leaf {f_check_frame f_check_post f_check_turn f_hung_leaf : G.FnT} (h1 : Sp_check_frame f_check_frame) (h2 : Sp_check_post f_check_post) (h3 : Sp_check_turn f_check_turn) (h4 : Sp_hung_leaf f_hung_leaf) : Sp_hanging_leaf (arK 3 (runB finF n_hanging_leaf (b_hanging_leaf f_check_frame f_check_post f_check_turn f_hung_leaf))) := fun r p s c h =>
  (arK_eq rfl).trans (run_ret ((seq_nx (drop_of (pv_call (pv_cons (pv_var rfl) pv_nil) rfl (h1 r c h)))).trans ((seq_nx (drop_of (pv_call (pv_cons (pv_var rfl) pv_nil) rfl (h2 p c)))).trans ((seq_nx (drop_of (pv_call (pv_cons (pv_var rfl) pv_nil) rfl (h3 s c)))).trans
    (ret_of (pv_call (pv_cons (pv_var rfl) (pv_cons (pv_var rfl) (pv_cons (pv_var rfl) pv_nil))) rfl (h4 r p s c)))))))
def Sp_frames_house (f : G.FnT) : Prop := ∀ bs hs c, goodFs bs → bs.length = hs.length → f [frs bs, hgs hs] c = some (.ok (.tup [lvs bs hs, .tup []]) c)
theorem sp_frames_house {f_check_hangings f_all_hung : G.FnT} (h1 : Sp_check_hangings f_check_hangings) (h2 : Sp_all_hung f_all_hung) : Sp_frames_house (arK 2 (runB finF n_frames_house (b_frames_house f_check_hangings f_all_hung))) := fun bs hs c h hl =>
  (arK_eq rfl).trans (run_ret ((seq_nx (drop_of (pv_call (pv_cons (pv_var rfl) (pv_cons (pv_var rfl) pv_nil)) rfl (h1 bs hs c h hl)))).trans (ret_of (pv_tup (pv_cons (pv_call (pv_cons (pv_var rfl) (pv_cons (pv_var rfl) pv_nil)) rfl (h2 bs hs c (by have := h.2.1; omega))) (pv_cons (pv_tup pv_nil rfl) pv_nil)) rfl))))
theorem sp_is_frame {f_is_frame_form : G.FnT} (h1 : Sp_is_frame_form f_is_frame_form) : Sp_is_frame_form (arK 1 (runB finF n_is_frame (b_is_frame f_is_frame_form))) := fun v c h =>
  (arK_eq rfl).trans (run_ret (ret_of (pv_call (pv_cons (pv_var rfl) pv_nil) rfl (h1 v c h))))
theorem sp_is_house {f_is_house_form : G.FnT} (h1 : Sp_is_house_form f_is_house_form) : Sp_is_house_form (arK 1 (runB finF n_is_house (b_is_house f_is_house_form))) := fun v c h =>
  (arK_eq rfl).trans (run_ret (ret_of (pv_call (pv_cons (pv_var rfl) pv_nil) rfl (h1 v c h))))
theorem sp_is_leaf {f_is_leaf_form : G.FnT} (h1 : Sp_is_leaf_form f_is_leaf_form) : Sp_is_leaf_form (arK 1 (runB finF n_is_leaf (b_is_leaf f_is_leaf_form))) := fun v c h =>
  (arK_eq rfl).trans (run_ret (ret_of (pv_call (pv_cons (pv_var rfl) pv_nil) rfl (h1 v c h))))
def Sp_leaf_names (f : G.FnT) : Prop := ∀ ls w c, (∀ l ∈ ls, leafD l = true) → ls.length ≤ 100 → f [.tup [.tup ls, w]] c = some (.ok (.tup (ls.map fun l => .str (nmOf l))) c)
theorem sp_leaf_names {f_name_in : G.FnT} (h1 : Sp_name_in f_name_in) : Sp_leaf_names (arK 1 (runB finF n_leaf_names (b_leaf_names f_name_in))) := fun ls w c h hl =>
  (arK_eq rfl).trans (run_ret (ret_of (pv_b (pv_cons (pv_lc (items := ls) (fun l => .str (nmOf l)) (pv_e1 (x := .tup ls) (pv_e2 (x := .tup [.tup ls, w]) (pv_var rfl) pv_c rfl) rfl) (fun l hl => ⟨_, rfl, pv_c, pv_call (pv_cons (pv_var rfl) pv_nil) rfl (h1 l c (h l hl))⟩) (by omega)) pv_nil) rfl)))
def Sp_check_house (f : G.FnT) : Prop := ∀ v c, gd 20 v = true → houseD v = true → f [v] c = some (.ok .non c)
theorem sp_check_house {f_is_house_form : G.FnT} (h1 : Sp_is_house_form f_is_house_form) : Sp_check_house (arK 1 (runB finF n_check_house (b_check_house f_is_house_form))) := fun v c g h => by
  refine (arK_eq rfl).trans (run_nx (if_nx ?_))
  rw [← h]
  exact pv_call (pv_cons (pv_var rfl) pv_nil) rfl (h1 _ c g)
def Sp_names_of (f : G.FnT) : Prop := ∀ ls w c, gd 20 (.tup [.tup ls, w]) = true → houseD (.tup [.tup ls, w]) = true → (∀ l ∈ ls, leafD l = true) → ls.length ≤ 100 → f [.tup [.tup ls, w]] c = some (.ok (.tup (ls.map fun l => .str (nmOf l))) c)
theorem sp_names_of {f_check_house f_leaf_names : G.FnT} (h1 : Sp_check_house f_check_house) (h2 : Sp_leaf_names f_leaf_names) : Sp_names_of (arK 1 (runB finF n_names_of (b_names_of f_check_house f_leaf_names))) := fun ls w c g h hl hn =>
  (arK_eq rfl).trans (run_ret ((seq_nx (drop_of (pv_call (pv_cons (pv_var rfl) pv_nil) rfl (h1 _ c g h)))).trans (ret_of (pv_call (pv_cons (pv_var rfl) pv_nil) rfl (h2 ls w c hl hn)))))
end K59
set_option Elab.async false
set_option linter.all false
set_option maxRecDepth 100000
set_option maxHeartbeats 4000000
namespace K59
open PySem PySem.Spec PyProof.Rows L2 G
/-! ### leaves of frames are leaves -/
structure FrOk (r : Fr) : Prop where
  nm : nameS r.n = true
  x0 : 0 ≤ r.x
  y0 : 0 ≤ r.y
  u1 : r.u ≤ 199
  v1 : r.v ≤ 199
  flat : r.x = r.u ∨ r.y = r.v
  xu : r.x ≤ r.u
  yv : r.y ≤ r.v
  w2 : 2 ≤ r.wide
  wm : r.wide ≤ 100
theorem plc_iff {i : Int} : plc (.int i) = true ↔ 0 ≤ i ∧ i ≤ 199 := by
  simp only [plc, numB, belowB, upToB, Bool.and_eq_true, Bool.not_eq_true', decide_eq_false_iff_not, decide_eq_true_eq]
  omega
theorem frD_iff {r : Fr} : frD r.d = true ↔ FrOk r := by
  unfold Fr.d frD
  simp only [List.all_cons, List.all_nil, Bool.and_true, Bool.and_eq_true, plc_iff, Bool.not_eq_true', Bool.or_eq_false_iff, Bool.and_eq_false_iff, Bool.not_eq_false', beq_iff_eq, decide_eq_false_iff_not, decide_eq_true_eq]
  constructor
  · rintro ⟨⟨h1, ⟨a, b⟩, ⟨c, d⟩, ⟨e, f⟩, ⟨g, h⟩⟩, ⟨k, l, m⟩, n, o⟩
    exact ⟨h1, a, c, f, h, k, by omega, by omega, n, o⟩
  · rintro ⟨h1, a, b, c, d, e, f, g, k, l⟩
    exact ⟨⟨h1, ⟨a, by omega⟩, ⟨b, by omega⟩, ⟨by omega, c⟩, ⟨by omega, d⟩⟩, ⟨e, by omega, by omega⟩, k, l⟩
theorem hd_ways : ∀ w s : Bool, hdD (wayD w) = true ∧ hdD (v2 (0 - wx w) (0 - wy w)) = true ∧ hdD (openD w s) = true ∧ eqD (wayD w) (openD w s) = false ∧ eqD (v2 (0 - wx w) (0 - wy w)) (openD w s) = false := by
  decide +kernel
theorem long_ok {r : Fr} (h : FrOk r) : numB (some 1) (some 99) (.int (r.wide - 1)) = true := by
  simp only [numB, belowB, upToB, Bool.and_eq_true, Bool.not_eq_true', decide_eq_false_iff_not, decide_eq_true_eq]
  have := h.w2
  have := h.wm
  omega
theorem leaf_hung {r : Fr} (h : FrOk r) (p s : Bool) : leafD (hungD r p s) = true := by
  obtain ⟨h1, h2, h3, h4, h5⟩ := hd_ways r.w s
  have px := plc_iff.mpr ⟨h.x0, by have := h.xu; have := h.u1; omega⟩
  have py := plc_iff.mpr ⟨h.y0, by have := h.yv; have := h.v1; omega⟩
  have pu := plc_iff.mpr ⟨by have := h.xu; have := h.x0; omega, h.u1⟩
  have pv := plc_iff.mpr ⟨by have := h.yv; have := h.y0; omega, h.v1⟩
  have t := turn_side s
  have t2 := turn_side (!s)
  have hn : nameD (.str r.n) = true := h.nm
  cases p with
  | true => simp only [hungD, leafD, if_true, hn, px, py, long_ok h, turnD, t, h1, h3, h4, Bool.not_false, Bool.and_self]
  | false => simp only [hungD, leafD, Bool.false_eq_true, if_false, hn, pu, pv, long_ok h, turnD, t2, h2, h3, h5, Bool.not_false, Bool.and_self]
theorem nm_hung {r : Fr} {p s : Bool} : nmOf (hungD r p s) = r.n := by cases p <;> rfl
theorem hg_hung {r : Fr} {p s : Bool} : hgOf (hungD r p s) = if p then v2 r.x r.y else v2 r.u r.v := by cases p <;> rfl
theorem eqD_v2 {a b c d : Int} : eqD (v2 a b) (v2 c d) = (a == c && b == d) := by
  show ((a == c) && ((b == d) && true)) = _
  rw [Bool.and_true]
theorem hinge_ne {b r : Fr} (hb : FrOk b) (hr : FrOk r) (ht : touch b r = false) (p s p2 s2 : Bool) : eqD (hgOf (hungD b p s)) (hgOf (hungD r p2 s2)) = false := by
  have b1 := hb.xu
  have b2 := hb.yv
  have r1 := hr.xu
  have r2 := hr.yv
  have key : ∀ px py : Int, b.x ≤ px → px ≤ b.u → b.y ≤ py → py ≤ b.v → r.x ≤ px → px ≤ r.u → r.y ≤ py → py ≤ r.v → False := fun px py _ _ _ _ _ _ _ _ => by
    have : touch b r = true := by
      simp only [touch, Bool.and_eq_true, Bool.not_eq_true', Bool.or_eq_false_iff, decide_eq_false_iff_not, decide_eq_true_eq]
      omega
    rw [this] at ht; cases ht
  rw [hg_hung, hg_hung]
  cases p <;> cases p2 <;> simp only [Bool.false_eq_true, if_false, if_true, eqD_v2, Bool.and_eq_false_iff, beq_eq_false_iff_ne]
  all_goals
    refine Classical.byContradiction fun hh => ?_
    have hh' := not_or.mp hh
    have e1 := Classical.not_not.mp hh'.1
    have e2 := Classical.not_not.mp hh'.2
  · exact key b.u b.v (by omega) (by omega) (by omega) (by omega) (by omega) (by omega) (by omega) (by omega)
  · exact key b.u b.v (by omega) (by omega) (by omega) (by omega) (by omega) (by omega) (by omega) (by omega)
  · exact key b.x b.y (by omega) (by omega) (by omega) (by omega) (by omega) (by omega) (by omega) (by omega)
  · exact key b.x b.y (by omega) (by omega) (by omega) (by omega) (by omega) (by omega) (by omega) (by omega)
def lvl (bs : List Fr) (hs : List Hg) : List D := (bs.zip hs).map fun q => hungD q.1 q.2.1 q.2.2
theorem lvs_eq (bs : List Fr) (hs : List Hg) : lvs bs hs = .tup (lvl bs hs) := rfl
theorem good_ok {bs : List Fr} (h : goodFs bs) : ∀ b ∈ bs, FrOk b := fun b hb => frD_iff.mp (good_mem h b hb)
theorem lvl_leaf {bs : List Fr} {hs : List Hg} (h : goodFs bs) : ∀ l ∈ lvl bs hs, leafD l = true := fun l hl => by
  obtain ⟨q, hq, rfl⟩ := List.mem_map.mp hl
  exact leaf_hung (good_ok h q.1 (List.of_mem_zip hq).1) _ _
theorem lvl_len {bs : List Fr} {hs : List Hg} (hl : bs.length = hs.length) : (lvl bs hs).length = bs.length := by
  unfold lvl
  rw [List.length_map, List.length_zip]
  omega
theorem gd_hung {r : Fr} (h : FrOk r) (p s : Bool) : gd 2 (hungD r p s) = true := by
  have hn : gd 1 (.str r.n) = true := gd_name h.nm
  have g1 : ∀ w : Bool, gd 1 (wayD w) = true := by decide +kernel
  have g2 : ∀ w : Bool, gd 1 (v2 (0 - wx w) (0 - wy w)) = true := by decide +kernel
  have g3 : ∀ w s : Bool, gd 1 (openD w s) = true := by decide +kernel
  have g4 : ∀ s : Bool, gd 1 (.str (sideS s)) = true := fun s => gd_up (gd_side s)
  have gi : ∀ i : Int, gd 1 (.int i) = true := fun i => rfl
  cases p with
  | true =>
    show (gds 1 [D.str r.n, D.int r.x, D.int r.y, .int (r.wide - 1), wayD r.w, .str (sideS s), openD r.w s] && true) = true
    simp only [gds, hn, gi, g1, g3, g4, Bool.and_self]
  | false =>
    show (gds 1 [D.str r.n, .int r.u, .int r.v, .int (r.wide - 1), v2 (0 - wx r.w) (0 - wy r.w), .str (sideS !s), openD r.w s] && true) = true
    simp only [gds, hn, gi, g2, g3, g4, Bool.and_self]
theorem gd_lvs {bs : List Fr} {hs : List Hg} (h : goodFs bs) : gd 3 (lvs bs hs) = true := by
  show (gds 2 (lvl bs hs) && decide ((lvl bs hs).length ≤ 10000)) = true
  rw [gds_of fun d hd => by
    obtain ⟨q, hq, rfl⟩ := List.mem_map.mp hd
    exact gd_hung (good_ok h q.1 (List.of_mem_zip hq).1) _ _]
  have := h.2.1
  unfold lvl
  simp
  omega
def hsD (bs : List Fr) (hs : List Hg) : D := .tup [lvs bs hs, .tup []]
theorem gd_hs {bs : List Fr} {hs : List Hg} (h : goodFs bs) : gd 4 (hsD bs hs) = true := by
  show (gds 3 [lvs bs hs, .tup []] && true) = true
  simp only [gds, gd_lvs h]
  rfl
theorem house_hung {bs : List Fr} {hs : List Hg} (h : goodFs bs) (hl : bs.length = hs.length) : houseD (hsD bs hs) = true := by
  have w : wrongL (some 7) nextLf (lvs bs hs) = [] := wrongL_nil.mpr ⟨lvl bs hs, rfl, fun i x hx => by
    have hi := len_pos_of hx
    rw [lvl_len hl] at hi
    refine ⟨fun e => ?_, ?_⟩
    · have := h.2.1
      have := Option.some.inj e
      omega
    · unfold lvl at hx
      rw [List.getElem?_map] at hx
      obtain ⟨q, hq, rfl⟩ := Option.map_eq_some_iff.mp hx
      have hr : bs[i]? = some q.1 := by
        have := List.getElem?_zip_eq_some.mp (show (bs.zip hs)[i]? = some (q.1, q.2) from hq)
        exact this.1
      have hn := h.2.2 i q.1 hr
      have ho := frD_iff.mp hn.1
      have et : (lvl bs hs).take i = ((bs.zip hs).take i).map fun q => hungD q.1 q.2.1 q.2.2 := by
        unfold lvl
        rw [List.map_take]
      have ef : ((bs.zip hs).take i).map Prod.fst = bs.take i := by
        rw [List.map_take, List.map_fst_zip (by omega)]
      rw [et]
      unfold nextLf
      rw [leaf_hung ho]
      have e2 : ((((bs.zip hs).take i).map fun q => hungD q.1 q.2.1 q.2.2).any fun l => eqD (hgOf l) (hgOf (hungD q.1 q.2.1 q.2.2))) = false := by
        rw [List.any_eq_false]
        intro l hl2
        obtain ⟨t, ht, rfl⟩ := List.mem_map.mp hl2
        have hm : t.1 ∈ bs.take i := by rw [← ef]; exact List.mem_map_of_mem ht
        have := hinge_ne (good_ok h t.1 (List.mem_of_mem_take hm)) ho (hn.2.2 t.1 hm) t.2.1 t.2.2 q.2.1 q.2.2
        rw [this]; decide
      rw [e2]
      cases hlast : ((bs.zip hs).take i).getLast? with
      | none =>
        rw [List.getLast?_map, hlast]
        simp
      | some t =>
        rw [List.getLast?_map, hlast]
        have : (bs.take i).getLast? = some t.1 := by rw [← ef, List.getLast?_map, hlast]; rfl
        have := hn.2.1 t.1 this
        simp only [Option.map_some, nm_hung]
        rw [decide_eq_true this]
        simp⟩
  have w1 : wrong1 (some 7) nextLf (lvs bs hs) = [] := by
    unfold wrong1
    rw [w]
    have : lvl bs hs ≠ [] := fun e => by
      have := lvl_len (bs := bs) (hs := hs) hl
      rw [e] at this
      exact h.1 (List.eq_nil_of_length_eq_zero this.symm)
    unfold lvs
    show (if emptyTup (.tup (lvl bs hs)) = true then _ else _) = _
    cases hz : lvl bs hs with
    | nil => exact absurd hz this
    | cons a b => rfl
  show ((wrong1 (some 7) nextLf (lvs bs hs)).isEmpty && _) = true
  rw [w1]
  rfl
end K59
set_option Elab.async false
set_option linter.all false
set_option maxRecDepth 100000
set_option maxHeartbeats 4000000
namespace K59
open PySem PySem.Spec PyProof.Rows L2 G
/-! ### the law's draws -/
def isW (l : List D) : Prop := ∃ a b e : Int, l = [.int a, .int b, .int e] ∧ 0 ≤ a
def Sp_draw (f : G.FnT) : Prop := ∀ (c : Cells) (i : Nat) l (lim : Int), c[i]? = some l → isW l → 0 < lim → lim < 1073741824 → ∃ l' d, isW l' ∧ 0 ≤ d ∧ d < lim ∧ f [.cell i, .int lim] c = some (.ok (.int d) (c.set i l'))
theorem sp_draw : Sp_draw (arK 2 (runB finF n__law_draw b__law_draw)) := fun c i l lim hc hw h0 h1 => by
  obtain ⟨a, b, e, rfl, ha⟩ := hw
  have wl : ∀ (c : Cells) (k : Int) (x y z d : D) (env : Ev), env[0]? = some (some (.cell i)) → c[i]? = some [x, y, z] → atI [x, y, z] k = some d → Pv (e2 ixK (varE 0) (cE (.int k))) env c d := fun c k x y z d env h hc hz => pv_cix (pv_var h) pv_c hc hz
  have cnd : Pv (e2 gtK (e2 ixK (varE 0) (cE (.int 0))) (cE (.int 0))) (startE n__law_draw [.cell i, .int lim]) c (.bl (decide (0 < a))) := pv_e2 (wl c 0 _ _ _ _ _ rfl hc rfl) pv_c rfl
  by_cases hp : 0 < a
  · rw [decide_eq_true hp] at cnd
    refine ⟨[.int (a / lim), .int b, .int e], a % lim, ⟨_, _, _, rfl, Int.ediv_nonneg ha (by omega)⟩, Int.emod_nonneg _ (by omega), Int.emod_lt_of_pos _ h0, (arK_eq rfl).trans (run_retC (c1 := c.set i [.int (a / lim), .int b, .int e]) ?_ (by simp))⟩
    refine seq_ret ((if_of (a := true) cnd).trans ?_)
    refine (seq_nx (e1 := [some (.cell i), some (.int lim), some (.int (a % lim)), none]) (c1 := c.set i [.int (a / lim), .int b, .int e]) (asg_of (d := .tup [.int (a / lim), .int (a % lim)]) (pv_b (pv_cons (wl c 0 _ _ _ _ _ rfl hc rfl) (pv_cons (pv_var rfl) pv_nil)) ?_) ?_)).trans (ret_of (pv_var rfl))
    · show (if (decide (0 < lim) && decide (lim < 1073741824)) = true then okd (.tup [.int (a / lim), .int (a % lim)]) c else none) = _
      rw [decide_eq_true h0, decide_eq_true h1]; rfl
    · have s := subG_of (fo := varE 0) (fi := cE (.int 0)) (env := startE n__law_draw [.cell i, .int lim]) (d := .int (a / lim)) (k := 0) (pv_var rfl) pv_c hc rfl
      show (match subG (varE 0) (cE (.int 0)) (.int (a / lim)) (startE n__law_draw [.cell i, .int lim]) c with
        | some (e1, c1) => consG (nameG 2) nilG [.int (a % lim)] e1 c1
        | none => none) = _
      rw [s]
      rfl
  · rw [decide_eq_false hp] at cnd
    obtain ⟨st, hs⟩ : ∃ st, Int.fmod (b * 40037 + 13001 * (e + 1) + 7) 2147483563 = st := ⟨_, rfl⟩
    obtain ⟨b2, hb⟩ : ∃ b2, Int.fmod (st * (Int.fmod st 5009 + 20023) + (e + 1)) 2147483563 = b2 := ⟨_, rfl⟩
    refine ⟨[.int a, .int b2, .int (e + 1)], Int.fmod (Int.fdiv b2 1013) lim, ⟨_, _, _, rfl, ha⟩, Int.fmod_nonneg_of_pos _ h0, Int.fmod_lt_of_pos _ h0, (arK_eq rfl).trans (run_retC (c1 := c.set i [.int a, .int b2, .int (e + 1)]) ?_ (by simp))⟩
    · have hz : True := True.intro
      have hc1 : (c.set i [.int a, .int b, .int (e + 1)])[i]? = some [.int a, .int b, .int (e + 1)] := set_get hc
      have hc2 : (c.set i [.int a, .int b2, .int (e + 1)])[i]? = some [.int a, .int b2, .int (e + 1)] := set_get hc
      refine (seq_nx (if_of (a := false) cnd)).trans ?_
      refine (seq_nx (e1 := startE n__law_draw [.cell i, .int lim]) (c1 := c.set i [.int a, .int b, .int (e + 1)]) (asg_of (pv_add (wl c 2 _ _ _ _ _ rfl hc rfl) pv_c) (subG_of (pv_var rfl) pv_c hc (k := 2) rfl))).trans ?_
      refine (seq_nx (e1 := [some (.cell i), some (.int lim), none, some (.int st)]) (c1 := c.set i [.int a, .int b, .int (e + 1)]) (asg_of (d := .int st) ?_ rfl)).trans ?_
      · rw [← hs]
        exact pv_mod (pv_int (pv_add (pv_add (pv_mul (wl _ 1 _ _ _ _ _ rfl hc1 rfl) pv_c (mulOkR (by decide) (by decide))) (pv_mul pv_c (wl _ 2 _ _ _ _ _ rfl hc1 rfl) (mulOkL (by decide) (by decide)))) pv_c)) pv_c (by decide)
      refine (seq_nx (e1 := [some (.cell i), some (.int lim), none, some (.int st)]) (c1 := c.set i [.int a, .int b2, .int (e + 1)]) (asg_of (d := .int b2) ?_ ?_)).trans ?_
      · rw [← hb]
        have g1 := Int.fmod_nonneg_of_pos st (show (0 : Int) < 5009 by decide)
        have g2 := Int.fmod_lt_of_pos st (show (0 : Int) < 5009 by decide)
        exact pv_mod (pv_int (pv_add (pv_mul (pv_var rfl) (pv_add (pv_mod (pv_int (pv_var rfl)) pv_c (by decide)) pv_c) (mulOkR (by omega) (by omega))) (wl _ 2 _ _ _ _ _ rfl hc1 rfl))) pv_c (by decide)
      · have := subG_of (fo := varE 0) (fi := cE (.int 1)) (env := [some (.cell i), some (.int lim), none, some (.int st)]) (d := .int b2) (k := 1) (pv_var rfl) pv_c hc1 rfl
        rw [this, List.set_set]
        rfl
      · refine ret_of (pv_mod (pv_int (pv_div (wl _ 1 _ _ _ _ _ rfl hc2 rfl) pv_c (by decide))) (pv_var rfl) (by omega))
def Sp_of (f : G.FnT) : Prop := ∀ (c : Cells) (i : Nat) l (v : D) (xs : List D), c[i]? = some l → isW l → (v = .tup xs ∨ v = .lst xs) → xs ≠ [] → xs.length < 100000 → ∃ l' x, isW l' ∧ x ∈ xs ∧ f [.cell i, v] c = some (.ok x (c.set i l'))
theorem atI_in {α : Type} {xs : List α} {d : Int} (h0 : 0 ≤ d) (h1 : d < xs.length) : ∃ x, x ∈ xs ∧ atI xs d = some x := by
  refine ⟨xs[d.toNat]'(by omega), List.getElem_mem _, ?_⟩
  unfold atI ixN
  rw [if_pos h0, if_pos h1]
  simp
theorem sp_of {f__law_draw : G.FnT} (h1 : Sp_draw f__law_draw) : Sp_of (arK 2 (runB finF n__law_of (b__law_of f__law_draw))) := fun c i l v xs hc hw hv hne hl => by
  have hp : 0 < xs.length := List.length_pos_iff.mpr hne
  obtain ⟨l', d, w', d0, d1, e⟩ := h1 c i l xs.length hc hw (by omega) (by omega)
  obtain ⟨x, hx, hat⟩ := atI_in d0 d1
  refine ⟨l', x, w', hx, (arK_eq rfl).trans (run_retC (c1 := c.set i l') (ret_ofX (px_e2 (Pv.px (d := v) (env := startE n__law_of [.cell i, v]) (pv_var rfl)) (px_call (ds := [.cell i, .int xs.length]) (Pv.px (pv_cons (pv_var rfl) (pv_cons (pv_b (pv_cons (x := v) (pv_var rfl) pv_nil) ?_) pv_nil))) rfl e) ?_)) (by simp))⟩
  · rcases hv with rfl | rfl <;> rfl
  · rcases hv with rfl | rfl
    · show (match atI xs d with | some d => okd d (c.set i l') | none => none) = _
      rw [hat]; rfl
    · show (match atI xs d with | some d => okd d (c.set i l') | none => none) = _
      rw [hat]; rfl
def Sp_ofS (f : G.FnT) : Prop := ∀ (c : Cells) (i : Nat) l (s : Str), c[i]? = some l → isW l → 0 < s.cps.toList.length → s.cps.toList.length < 100000 → ∃ l' k, isW l' ∧ k ∈ s.cps.toList ∧ f [.cell i, .str s] c = some (.ok (.str ⟨#[k]⟩) (c.set i l'))
theorem sp_ofS {f__law_draw : G.FnT} (h1 : Sp_draw f__law_draw) : Sp_ofS (arK 2 (runB finF n__law_of (b__law_of f__law_draw))) := fun c i l s hc hw hp hl => by
  have es : s.length = s.cps.toList.length := by simp [Str.length]
  have hz : sz s.length = true := decide_eq_true (by omega)
  obtain ⟨l', d, w', d0, d1, e⟩ := h1 c i l s.length hc hw (by omega) (by omega)
  obtain ⟨x, hx, hat⟩ := atI_in (xs := s.cps.toList) d0 (by omega)
  refine ⟨l', x, w', hx, (arK_eq rfl).trans (run_retC (c1 := c.set i l') (ret_ofX (px_e2 (Pv.px (d := .str s) (env := startE n__law_of [.cell i, .str s]) (pv_var rfl)) (px_call (ds := [.cell i, .int s.length]) (Pv.px (pv_cons (pv_var rfl) (pv_cons (pv_b (pv_cons (x := .str s) (pv_var rfl) pv_nil) ?_) pv_nil))) rfl e) ?_)) (by simp))⟩
  · exact if_pos hz
  · show (if sz s.length then (match atI s.cps.toList d with
    | some k => okd (.str ⟨#[k]⟩) (c.set i l')
    | none => none) else none) = _
    rw [if_pos hz, hat]; rfl
/-! ### _law_same -/
mutual
theorem eqD_refl : ∀ (n : Nat) (d : D), gd n d = true → eqD d d = true
  | n, .non, _ => by simp [eqD]
  | n, .bl _, _ => by simp [eqD]
  | n, .int _, _ => by simp [eqD]
  | n, .str s, _ => by simp [eqD]
  | n + 1, .tup xs, h => by
    simp only [gd, Bool.and_eq_true] at h
    exact eqDs_refl n xs h.1
  | n + 1, .lst xs, h => by
    simp only [gd, Bool.and_eq_true] at h
    exact eqDs_refl n xs h.1
  | 0, .tup _, h => by cases h
  | 0, .lst _, h => by cases h
  | n, .scr _, h => by cases n <;> cases h
  | n, .cell _, h => by cases n <;> cases h
  | n, .fn _, h => by cases n <;> cases h
theorem eqDs_refl : ∀ (n : Nat) (ds : List D), gds n ds = true → eqDs ds ds = true
  | n, [], _ => rfl
  | n, d :: ds, h => by
    simp only [gds, Bool.and_eq_true] at h
    simp only [eqDs, eqD_refl n d h.1, eqDs_refl n ds h.2, Bool.and_self]
end
def Sp_same (n : Nat) (f : G.FnT) : Prop := ∀ d c, gd n d = true → f [d, d] c = some (.ok (.bl true) c)
theorem same_flat {f : G.FnT} {d : D} {c : Cells} {n : Nat} (hg : gd n d = true) (hn : n ≤ 60) (ht : isKi .tup d = false) : (arK 2 (runB finF n__law_same (b__law_same f))) [d, d] c = some (.ok (.bl true) c) := by
  refine (arK_eq rfl).trans (run_ret ?_)
  have i : ∀ k i, (startE n__law_same [d, d])[i]? = some (some d) → Pv (e1 (isiK k) (varE i)) (startE n__law_same [d, d]) c (.bl (isKi k d)) := fun k i h => pv_e1 (pv_var h) (isi_of (gd_nf hg))
  have eb : ∀ b : Bool, (!eqD (.bl b) (.bl b)) = false := by decide
  have q1 := pv_and (b := isKi .tup d) (i .tup 0 rfl) fun _ => i .tup 1 rfl
  rw [ht] at q1
  refine (seq_nx (if_of (a := false) q1)).trans ?_
  have q2 := pv_or (pv_e2 (i .bl 0 rfl) (i .bl 1 rfl) (ne_of (n := 0) (m := 0) rfl rfl)) fun _ => pv_e2 (i .int 0 rfl) (i .int 1 rfl) (ne_of (n := 0) (m := 0) rfl rfl)
  rw [eb, eb] at q2
  refine (seq_nx (if_of (a := false) q2)).trans ?_
  have q3 := pv_and (pv_e2 (i .tup 0 rfl) (i .tup 1 rfl) (eq_of (n := 0) (m := 0) rfl rfl)) fun _ => pv_e2 (pv_var (i := 0) rfl) (pv_var (i := 1) rfl) (eq_of hg hg hn hn)
  rw [eqD_refl 0 _ rfl, eqD_refl n d hg] at q3
  exact ret_of q3
theorem rng_of {n : Nat} {c : Cells} (h : n ≤ 100000) : rng1K (.tup [.int n]) c = some (.ok (.tup ((List.range n).map fun i => D.int ((0 : Int) + (i : Nat)))) c) := by
  have z : (decide (-(2 ^ 62) ≤ (n : Int)) && decide ((n : Int) < 2 ^ 62)) = true := by
    simp only [Bool.and_eq_true, decide_eq_true_eq]
    omega
  simp only [rng1K, z, if_true, rangeD, Int.toNat_natCast]
theorem sp_same0 {f : G.FnT} : Sp_same 0 (arK 2 (runB finF n__law_same (b__law_same f))) := fun d c h => same_flat h (by decide) (by cases d <;> first | rfl | cases h)
theorem sp_same {n : Nat} {f : G.FnT} (h1 : Sp_same n f) (hn : n ≤ 50) : Sp_same (n + 1) (arK 2 (runB finF n__law_same (b__law_same f))) := fun d c hg => by
  cases ht : isKi .tup d with
  | false => exact same_flat hg (by omega) ht
  | true =>
    obtain ⟨xs, rfl⟩ : ∃ xs, d = .tup xs := by cases d <;> first | exact ⟨_, rfl⟩ | cases ht
    have hl := gd_len hg
    refine (arK_eq rfl).trans (run_ret ?_)
    refine seq_ret ((if_of (a := true && true) (pv_and (pv_e1 (x := .tup xs) (pv_var rfl) rfl) fun _ => pv_e1 (x := .tup xs) (pv_var rfl) rfl)).trans (ret_of ?_))
    have q := lc_of (it := e1 rng1K (consA (bE lenK (consA (varE 0) nilA)) nilA)) (tg := nameG 2) (el := bE (arK 2 f) (consA (e2 ixK (varE 0) (varE 2)) (consA (e2 ixK (varE 1) (varE 2)) nilA))) (env := startE n__law_same [.tup xs, .tup xs]) (c := c) (vs := [2]) (List.range xs.length) (fun i => D.int ((0 : Int) + (i : Nat))) (fun _ => D.bl true)
      (pv_e1 (pv_cons (pv_b (pv_cons (x := .tup xs) (pv_var rfl) pv_nil) rfl) pv_nil) (rng_of (by omega))) (fun i hi => by
        have hi' := List.mem_range.mp hi
        have at' : atI xs ((0 : Int) + (i : Nat)) = some xs[i] := by
          unfold atI ixN
          rw [if_pos (by omega), if_pos (by omega)]
          simp [hi']
        have ix : ∀ k (env : Ev), env[k]? = some (some (.tup xs)) → env[2]? = some (some (.int ((0 : Int) + (i : Nat)))) → Pv (e2 ixK (varE k) (varE 2)) env c xs[i] := fun k env h h2 => pv_e2 (pv_var h) (pv_var h2) (by
          show (match atI xs ((0 : Int) + (i : Nat)) with | some d => okd d c | none => none) = _
          rw [at']; rfl)
        refine ⟨_, rfl, pv_call (pv_cons (ix 0 _ rfl rfl) (pv_cons (ix 1 _ rfl rfl) pv_nil)) rfl (h1 _ c (gd_in hg _ (List.getElem_mem _)))⟩) (by simp; omega)
    have qL : ∀ i, (startE n__law_same [.tup xs, .tup xs])[i]? = some (some (.tup xs)) → Pv (bE lenK (consA (varE i) nilA)) (startE n__law_same [.tup xs, .tup xs]) c (.int xs.length) := fun i h => pv_b (pv_cons (pv_var h) pv_nil) rfl
    have q2 := pv_and (pv_e2 (qL 0 rfl) (qL 1 rfl) (eq_of (x := .int xs.length) (y := .int xs.length) (n := 0) (m := 0) rfl rfl)) fun _ => pv_b (pv_cons q pv_nil) (all_of (p := fun _ => true))
    rw [eqD_int] at q2
    have e : (List.range xs.length).all (fun _ => true) = true := by simp
    rw [e] at q2
    exact q2
end K59
set_option Elab.async false
set_option linter.all false
set_option maxRecDepth 100000
set_option maxHeartbeats 4000000
namespace K59
open PySem PySem.Spec PyProof.Rows L2 G
/-! ### the law's own reckoning -/
def badT : D → Bool
  | .tup [.int a, .int b, .int c, .int d] => decide ((if d < b then d else b) < (if c > a then c else a))
  | _ => false
def Sp_ltouch (f : G.FnT) : Prop := ∀ (r s : Fr) c, FrOk r → FrOk s → f [r.d, s.d] c = some (.ok (.bl (touch r s)) c)
theorem bad_iff {a b c d : Int} (h1 : a ≤ b) (h2 : c ≤ d) : badT (.tup [.int a, .int b, .int c, .int d]) = (decide (d < a) || decide (b < c)) := by
  show decide ((if d < b then d else b) < (if c > a then c else a)) = _
  by_cases q1 : d < b <;> by_cases q2 : c > a <;> simp only [q1, q2, if_true, if_false] <;> rw [Bool.eq_iff_iff] <;> simp only [Bool.or_eq_true, decide_eq_true_eq] <;> omega
theorem sp_ltouch : Sp_ltouch (arK 2 (runB finF n__law_touch b__law_touch)) := fun r s c hr hs => by
  refine (arK_eq rfl).trans (run_ret ?_)
  have hit : Pv (e1 iterK (e1 tupK (consA (e1 tupK (consA (e2 ixK (varE 0) (cE (.int 1))) (consA (e2 ixK (varE 0) (cE (.int 3))) (consA (e2 ixK (varE 1) (cE (.int 1))) (consA (e2 ixK (varE 1) (cE (.int 3))) (nilA)))))) (consA (e1 tupK (consA (e2 ixK (varE 0) (cE (.int 2))) (consA (e2 ixK (varE 0) (cE (.int 4))) (consA (e2 ixK (varE 1) (cE (.int 2))) (consA (e2 ixK (varE 1) (cE (.int 4))) (nilA)))))) (nilA))))) (startE n__law_touch [r.d, s.d]) c
    (.tup [.tup [.int r.x, .int r.u, .int s.x, .int s.u], .tup [.int r.y, .int r.v, .int s.y, .int s.v]]) := rfl
  have b1 := bad_iff hr.xu hs.xu
  have b2 := bad_iff hr.yv hs.yv
  have lp := forL_find (tg := tupG 4 (consG (nameG 2) (consG (nameG 3) (consG (nameG 4) (consG (nameG 5) (nilG)))))) (c := c)
    (b := ifS (e2 gtK (bE maxK (consA (varE 2) (consA (varE 4) nilA))) (bE minK (consA (varE 3) (consA (varE 5) nilA)))) (retS (cE (.bl false))) (skipS)) (bad := badT) (res := fun _ => .bl false)
    (fun e => ∃ a b p q, e = [some r.d, some s.d, a, b, p, q]) [.tup [.int r.x, .int r.u, .int s.x, .int s.u], .tup [.int r.y, .int r.v, .int s.y, .int s.v]] (startE n__law_touch [r.d, s.d]) ⟨_, _, _, _, rfl⟩ (fun pre x post e he _ ⟨a, b, p, q, ee⟩ => by
      subst ee
      have : ∃ a b p q : Int, x = .tup [.int a, .int b, .int p, .int q] := by
        have hm : x ∈ [D.tup [.int r.x, .int r.u, .int s.x, .int s.u], .tup [.int r.y, .int r.v, .int s.y, .int s.v]] := by rw [he]; simp
        simp only [List.mem_cons, List.not_mem_nil, or_false] at hm
        rcases hm with rfl | rfl <;> exact ⟨_, _, _, _, rfl⟩
      obtain ⟨a, b, p, q, rfl⟩ := this
      refine ⟨_, rfl, ?_⟩
      have cond : Pv (e2 gtK (bE maxK (consA (varE 2) (consA (varE 4) nilA))) (bE minK (consA (varE 3) (consA (varE 5) nilA)))) [some r.d, some s.d, some (.int a), some (.int b), some (.int p), some (.int q)] c (.bl (badT (.tup [.int a, .int b, .int p, .int q]))) := rfl
      cases hb : badT (.tup [.int a, .int b, .int p, .int q]) with
      | false =>
        rw [hb] at cond
        exact .inl ⟨rfl, _, if_of (a := false) cond, _, _, _, _, rfl⟩
      | true =>
        rw [hb] at cond
        exact .inr ⟨rfl, (if_of (a := true) cond).trans (ret_of pv_c)⟩)
  rcases lp with ⟨x, h1, h2⟩ | ⟨h1, e, ⟨a, b, p, q, ee⟩, h2⟩
  · have w : touch r s = false := by
      have hm := List.mem_of_find?_eq_some h1
      have hb := List.find?_some h1
      simp only [List.mem_cons, List.not_mem_nil, or_false] at hm
      rcases hm with rfl | rfl
      · rw [b1] at hb
        unfold touch
        simp only [Bool.or_eq_true, decide_eq_true_eq] at hb
        simp only [Bool.and_eq_false_iff, Bool.not_eq_false', Bool.or_eq_true, decide_eq_true_eq]
        exact .inl hb
      · rw [b2] at hb
        unfold touch
        simp only [Bool.or_eq_true, decide_eq_true_eq] at hb
        simp only [Bool.and_eq_false_iff, Bool.not_eq_false', Bool.or_eq_true, decide_eq_true_eq, decide_eq_false_iff_not]
        right
        omega
    rw [w]
    exact seq_ret ((for_of hit).trans h2)
  · have w : touch r s = true := by
      have n1 := List.find?_eq_none.mp h1 (.tup [.int r.x, .int r.u, .int s.x, .int s.u]) (by simp)
      have n2 := List.find?_eq_none.mp h1 (.tup [.int r.y, .int r.v, .int s.y, .int s.v]) (by simp)
      rw [b1] at n1
      rw [b2] at n2
      simp only [Bool.or_eq_true, decide_eq_true_eq] at n1 n2
      simp only [touch, Bool.and_eq_true, Bool.not_eq_true', Bool.or_eq_false_iff, decide_eq_false_iff_not, decide_eq_true_eq]
      omega
    rw [w]
    exact (seq_nx ((for_of hit).trans h2)).trans (ret_of pv_c)
def Sp_lhung (f : G.FnT) : Prop := ∀ (r : Fr) (h : Hg) c, FrOk r → f [r.d, hgD h] c = some (.ok (hungD r h.1 h.2) c)
theorem w_eq {r : Fr} (h : FrOk r) : eqD (.int r.y) (.int r.v) = r.w := by
  show (r.y == r.v) = decide (r.x < r.u)
  have h1 := h.flat
  have h2 := h.w2
  have h3 := h.xu
  unfold Fr.wide at h2
  rw [Bool.eq_iff_iff]
  simp only [beq_iff_eq, decide_eq_true_eq]
  omega
theorem sp_lhung : Sp_lhung (arK 2 (runB finF n__law_hung b__law_hung)) := fun r h c hr => by
  refine (arK_eq rfl).trans (run_ret ?_)
  obtain ⟨p, s⟩ := h
  refine (seq_nx (e1 := [some r.d, some (hgD (p, s)), some (.str r.n), some (.int r.x), some (.int r.y), some (.int r.u), some (.int r.v), none, none, none, none, none]) (asg_of (d := r.d) (pv_var rfl) rfl)).trans ?_
  refine (seq_nx (e1 := [some r.d, some (hgD (p, s)), some (.str r.n), some (.int r.x), some (.int r.y), some (.int r.u), some (.int r.v), some (.str (postS p)), some (.str (sideS s)), none, none, none]) (asg_of (d := hgD (p, s)) (pv_var rfl) rfl)).trans ?_
  have ew : v2 (wx r.w) (wy r.w) = if eqD (.int r.y) (.int r.v) = true then .tup [.int 1, .int 0] else .tup [.int 0, .int 1] := by
    rw [w_eq hr]
    cases r.w <;> rfl
  refine (seq_nx (e1 := [some r.d, some (hgD (p, s)), some (.str r.n), some (.int r.x), some (.int r.y), some (.int r.u), some (.int r.v), some (.str (postS p)), some (.str (sideS s)), some (.int r.wide), some (v2 (wx r.w) (wy r.w)), none]) (par2_of (x := .int r.wide) (y := v2 (wx r.w) (wy r.w)) (pv_cons (pv_sub (pv_add (pv_sub (pv_var rfl) (pv_var rfl)) (pv_var rfl)) (pv_var rfl)) (pv_cons (by
    rw [ew]
    exact pv_if (pv_e2 (pv_var rfl) (pv_var rfl) (eq_of (n := 0) (m := 0) rfl rfl)) (fun _ => pv_tup (pv_cons pv_c (pv_cons pv_c pv_nil)) rfl) (fun _ => pv_tup (pv_cons pv_c (pv_cons pv_c pv_nil)) rfl)) pv_nil)))).trans ?_
  have eo : openD r.w s = if eqD (.str (sideS s)) (.str "left") = true then v2 (0 - wy r.w) (wx r.w) else v2 (wy r.w) (0 - wx r.w) := by
    rw [side_eq]
    cases s <;> cases r.w <;> rfl
  refine (seq_nx (e1 := [some r.d, some (hgD (p, s)), some (.str r.n), some (.int r.x), some (.int r.y), some (.int r.u), some (.int r.v), some (.str (postS p)), some (.str (sideS s)), some (.int r.wide), some (v2 (wx r.w) (wy r.w)), some (openD r.w s)]) (asg_of (d := openD r.w s) (by
    rw [eo]
    exact pv_if (pv_e2 (x := .str (sideS s)) (pv_var rfl) pv_c (eq_of (n := 0) (m := 0) (gd_side s) (by decide +kernel))) (fun _ => rfl) (fun _ => rfl)) rfl)).trans ?_
  have i0 := if_of (t := e2 eqK (varE 7) (cE (.str "first"))) (s := retS (e1 tupK (consA (varE 2) (consA (varE 3) (consA (varE 4) (consA (e2 subK (varE 9) (cE (.int 1))) (consA (varE 10) (consA (varE 8) (consA (varE 11) (nilA)))))))))) (u := skipS) (env := [some r.d, some (hgD (p, s)), some (.str r.n), some (.int r.x), some (.int r.y), some (.int r.u), some (.int r.v), some (.str (postS p)), some (.str (sideS s)), some (.int r.wide), some (v2 (wx r.w) (wy r.w)), some (openD r.w s)]) (c := c)
    (pv_e2 (x := .str (postS p)) (pv_var rfl) pv_c (eq_of (n := 0) (m := 0) (gd_post p) (by decide +kernel)))
  rw [post_eq] at i0
  cases p with
  | true =>
    refine seq_ret (i0.trans (ret_of ?_))
    show Pv _ _ _ (.tup [.str r.n, .int r.x, .int r.y, .int (r.wide - 1), wayD r.w, .str (sideS s), openD r.w s])
    rw [way_v2]
    exact pv_tup (pv_cons (pv_var rfl) (pv_cons (pv_var rfl) (pv_cons (pv_var rfl) (pv_cons (pv_sub (pv_var rfl) pv_c) (pv_cons (pv_var rfl) (pv_cons (pv_var rfl) (pv_cons (pv_var rfl) pv_nil))))))) rfl
  | false =>
    refine (seq_nx i0).trans (ret_of ?_)
    have e : D.str (sideS !s) = if eqD (.str (sideS s)) (.str "left") = true then .str "right" else .str "left" := by
      rw [side_eq]
      cases s <;> rfl
    refine pv_tup (ds := [.str r.n, .int r.u, .int r.v, .int (r.wide - 1), v2 (0 - wx r.w) (0 - wy r.w), .str (sideS !s), openD r.w s]) (pv_cons (pv_var rfl) (pv_cons (pv_var rfl) (pv_cons (pv_var rfl) (pv_cons (pv_sub (pv_var rfl) pv_c) (pv_cons rfl (pv_cons ?_ (pv_cons (pv_var rfl) pv_nil))))))) rfl
    rw [e]
    exact pv_if (pv_e2 (x := .str (sideS s)) (pv_var rfl) pv_c (eq_of (n := 0) (m := 0) (gd_side s) (by decide +kernel))) (fun _ => pv_c) (fun _ => pv_c)
def Sp_lhangings (f : G.FnT) : Prop := ∀ c, f [] c = some (.ok (.lst ([(true, true), (true, false), (false, true), (false, false)].map hgD)) c)
theorem sp_lhangings : Sp_lhangings (runB finF n__law_hangings b__law_hangings) := fun c => run_ret rfl
theorem set_self {c : Cells} {i : Nat} {l : List D} (h : c[i]? = some l) : c.set i l = c := by
  apply List.ext_getElem?
  intro j
  by_cases e : i = j
  · subst e
    rw [set_get h, h]
  · rw [List.getElem?_set_ne e]
def Sp_choices (f : G.FnT) : Prop := ∀ (c : Cells) (i : Nat) l (bs : List Fr), c[i]? = some l → isW l → bs.length ≤ 100 → ∃ l' hs, isW l' ∧ hs.length = bs.length ∧ f [.cell i, frs bs] c = some (.ok (hgs hs) (c.set i l'))
theorem sp_choices {f__law_hangings f__law_of : G.FnT} (h1 : Sp_lhangings f__law_hangings) (h2 : Sp_of f__law_of) : Sp_choices (arK 2 (runB finF n__law_choices (b__law_choices f__law_hangings f__law_of))) := fun c i l bs hc hw hb => by
  obtain ⟨acc, c', hx, l', hs, w', rfl, rfl, hl⟩ := px_lc (it := e1 iterK (varE 1)) (tg := nameG 2) (tt := yesE) (el := bE (arK 2 f__law_of) (consA (varE 0) (consA (bE f__law_hangings nilA) nilA))) (env := startE n__law_choices [.cell i, frs bs]) (c := c) (c1 := c) (vs := [2]) (items := bs.map Fr.d)
    (fun items acc c2 => ∃ l2 hs, isW l2 ∧ c2 = c.set i l2 ∧ acc = hs.map hgD ∧ hs.length + items.length = bs.length) (Pv.px (pv_e1 (x := frs bs) (pv_var rfl) rfl)) ⟨l, [], hw, (set_self hc).symm, rfl, by simp⟩ (fun x rest acc c2 ⟨l2, hs, w2, ec, ea, hl⟩ => by
      subst ec ea
      have hc2 : (c.set i l2)[i]? = some l2 := set_get hc
      obtain ⟨l3, y, w3, hy, e3⟩ := h2 (c.set i l2) i l2 (.lst ([(true, true), (true, false), (false, true), (false, false)].map hgD)) _ hc2 w2 (.inr rfl) (by simp) (by simp)
      obtain ⟨h, _, rfl⟩ := List.mem_map.mp hy
      rw [List.set_set] at e3
      simp only [List.length_cons] at hl
      refine ⟨by rw [List.length_map]; omega, _, _, _, _, rfl, pv_c, px_call (Pv.px (pv_cons (x := .cell i) (pv_var rfl) (pv_cons (pv_b (ds := []) pv_nil (h1 _)) pv_nil))) rfl e3, l3, hs ++ [h], w3, rfl, by simp, by simp; omega⟩)
  refine ⟨l', hs, w', by simpa using hl, (arK_eq rfl).trans (run_retC (c1 := c.set i l') (ret_ofX (px_b (px_cons hx px_nil) rfl)) (by simp))⟩
/-! ### near frames -/
def rowsOf (r : Fr) : List (D × Bool) := [(r.d, true), (.lst [.str r.n, .int r.x, .int r.y, .int r.u, .int r.v], false), (.tup [.int r.x, .int r.y, .int r.u, .int r.v], false), (.tup [.str "long", .int r.x, .int r.y, .int r.u, .int r.v], false), (.non, false), (.int 5, false),
  (.tup [.str r.n, .int r.u, .int r.v, .int r.x, .int r.y], false), (.tup [.str r.n, .int r.x, .int r.y, .int (r.x + 1), .int r.y], false), (.tup [.str r.n, .int r.x, .int r.y, .int r.x, .int r.y], false),
  (.tup [.str r.n, .int r.x, .int r.y, .int (r.x + 100), .int r.y], true), (.tup [.str r.n, .int r.x, .int r.y, .int (r.x + 101), .int r.y], false), (.tup [.str r.n, .int r.x, .int r.y, .int (r.x + 5), .int (r.y + 5)], false),
  (.tup [.str "Zz", .int r.x, .int r.y, .int r.u, .int r.v], false), (.tup [.str r.n, .int (0 - 1), .int r.y, .int 5, .int r.y], false), (.tup [.str r.n, .int r.x, .int 190, .int r.x, .int 200], false),
  (.tup [.str r.n, .int r.x, .int r.y, .int r.x, .int (r.y + 2)], true), (.tup [.str r.n, .bl true, .int r.y, .int 9, .int r.y], false), (.tup [.str "", .int r.x, .int r.y, .int r.u, .int r.v], false)]
def rowD (q : D × Bool) : D := .tup [q.1, .bl q.2]
structure FrSm (r : Fr) : Prop where
  ok : FrOk r
  xs : r.x ≤ 50
  ys : r.y ≤ 50
theorem gd_sh {s : Str} {ds : List D} (h : gd 19 (.str s) = true) (h2 : gds 19 ds = true) (hl : ds.length ≤ 100) : gd 20 (.tup (.str s :: ds)) = true := by
  show (gds 19 (D.str s :: ds) && decide ((D.str s :: ds).length ≤ 10000)) = true
  simp only [gds, h, h2, Bool.and_self, Bool.true_and, decide_eq_true_eq, List.length_cons]
  omega
theorem no_name {s : Str} {a b c d : D} (h : nameS s = false) : frD (.tup [.str s, a, b, c, d]) = false := by
  unfold frD
  split
  · rename_i m a b c d he
    cases he
    show ((nameS s && _) && _) = false
    rw [h]; rfl
  · rfl
theorem fr_no {n : Str} {a b c d : Int} (h : ¬ FrOk ⟨n, a, b, c, d⟩) : frD (.tup [.str n, .int a, .int b, .int c, .int d]) = false := by
  cases z : frD (.tup [.str n, .int a, .int b, .int c, .int d]) with
  | false => rfl
  | true => exact absurd (frD_iff.mp (show frD (Fr.d ⟨n, a, b, c, d⟩) = true from z)) h
theorem frD_mk {r : Fr} (h : FrOk r) : frD r.d = true := frD_iff.mpr h
theorem rows_ok {r : Fr} (h : FrSm r) : ∀ q ∈ rowsOf r, gd 20 q.1 = true ∧ frD q.1 = q.2 := by
  have ho := h.ok
  have hn : gd 19 (.str r.n) = true := gd_name ho.nm
  obtain ⟨k1, k2, k3, k4, k5, k6, k7, k8, k9, k10⟩ := ho
  have kx := h.xs
  have ky := h.ys
  unfold Fr.wide at k9 k10
  intro q hq
  simp only [rowsOf, List.mem_cons, List.not_mem_nil, or_false] at hq
  rcases hq with rfl | rfl | rfl | rfl | rfl | rfl | rfl | rfl | rfl | rfl | rfl | rfl | rfl | rfl | rfl | rfl | rfl | rfl
  · exact ⟨gd_sh hn rfl (by simp), frD_iff.mpr h.ok⟩
  · refine ⟨?_, rfl⟩
    show (gds 19 [D.str r.n, .int r.x, .int r.y, .int r.u, .int r.v] && true) = true
    simp only [gds, hn]
    rfl
  · exact ⟨rfl, rfl⟩
  · exact ⟨gd_sh (by decide +kernel) rfl (by simp), no_name (by decide +kernel)⟩
  · exact ⟨rfl, rfl⟩
  · exact ⟨rfl, rfl⟩
  · exact ⟨gd_sh hn rfl (by simp), fr_no fun z => by have := z.xu; have := z.yv; simp only at *; omega⟩
  · exact ⟨gd_sh hn rfl (by simp), fr_no fun z => by have := z.w2; simp only [Fr.wide] at *; omega⟩
  · exact ⟨gd_sh hn rfl (by simp), fr_no fun z => by have := z.w2; simp only [Fr.wide] at *; omega⟩
  · refine ⟨gd_sh hn rfl (by simp), frD_mk (r := ⟨r.n, r.x, r.y, r.x + 100, r.y⟩) ⟨k1, k2, k3, ?_, ?_, .inr rfl, ?_, ?_, ?_, ?_⟩⟩ <;> simp only [Fr.wide] <;> omega
  · exact ⟨gd_sh hn rfl (by simp), fr_no fun z => by have := z.wm; simp only [Fr.wide] at *; omega⟩
  · exact ⟨gd_sh hn rfl (by simp), fr_no fun z => by have := z.flat; simp only at *; omega⟩
  · exact ⟨gd_sh (by decide +kernel) rfl (by simp), no_name (by decide +kernel)⟩
  · exact ⟨gd_sh hn rfl (by simp), fr_no fun z => by have := z.x0; simp only at *; omega⟩
  · exact ⟨gd_sh hn rfl (by simp), fr_no fun z => by have := z.v1; simp only at *; omega⟩
  · refine ⟨gd_sh hn rfl (by simp), frD_mk (r := ⟨r.n, r.x, r.y, r.x, r.y + 2⟩) ⟨k1, k2, k3, ?_, ?_, .inl rfl, ?_, ?_, ?_, ?_⟩⟩ <;> simp only [Fr.wide] <;> omega
  · exact ⟨gd_sh hn rfl (by simp), rfl⟩
  · exact ⟨gd_sh (by decide +kernel) rfl (by simp), no_name (by decide +kernel)⟩
def Sp_near (f : G.FnT) : Prop := ∀ (c : Cells) (i : Nat) l (r : Fr), c[i]? = some l → isW l → FrSm r → ∃ l' v, isW l' ∧ gd 20 v = true ∧ f [.cell i, r.d] c = some (.ok (.tup [v, .bl (frD v)]) (c.set i l'))
theorem sp_near {f__law_of : G.FnT} (h1 : Sp_of f__law_of) : Sp_near (arK 2 (runB finF n__law_near (b__law_near f__law_of))) := fun c i l r hc hw hr => by
  have e : b__law_near f__law_of (startE n__law_near [.cell i, r.d]) c = retS (bE (arK 2 f__law_of) (consA (varE 0) (consA (varE 7) nilA))) [some (.cell i), some r.d, some (.str r.n), some (.int r.x), some (.int r.y), some (.int r.u), some (.int r.v), some (.lst ((rowsOf r).map rowD))] c := rfl
  obtain ⟨l', x, w', hx, ex⟩ := h1 c i l (.lst ((rowsOf r).map rowD)) _ hc hw (.inr rfl) (by simp [rowsOf]) (by simp [rowsOf])
  obtain ⟨q, hq, rfl⟩ := List.mem_map.mp hx
  obtain ⟨g1, g2⟩ := rows_ok hr q hq
  refine ⟨l', q.1, w', g1, (arK_eq rfl).trans (run_retC (c1 := c.set i l') (e.trans (ret_ofX (px_call (Pv.px (pv_cons (x := .cell i) (pv_var rfl) (pv_cons (x := .lst ((rowsOf r).map rowD)) (pv_var rfl) pv_nil))) rfl ?_))) (by simp))⟩
  rw [g2]
  exact ex
end K59
set_option Elab.async false
set_option linter.all false
set_option maxRecDepth 100000
set_option maxHeartbeats 4000000
namespace K59
open PySem PySem.Spec PyProof.Rows L2 G
/-! ### names -/
def LT (k : Nat) : Nat := LETS.cps.toList.getD k 0
def chS (k : Nat) : Str := ⟨#[k]⟩
theorem lets_len : LETS.cps.toList.length = 26 := by decide +kernel
theorem lt_at {k : Nat} (h : k < 26) : atI LETS.cps.toList ((0 : Int) + (k : Nat)) = some (LT k) := by
  unfold atI ixN
  rw [lets_len, if_pos (by omega), if_pos (by omega)]
  simp only [Int.zero_add, Int.toNat_natCast, Option.bind_some, LT]
  rw [List.getD_eq_getElem?_getD, List.getElem?_eq_getElem (by rw [lets_len]; exact h)]
  rfl
theorem lt_mem {k : Nat} (h : k < 26) : LT k ∈ LETS.cps.toList := by
  unfold LT
  rw [List.getD_eq_getElem?_getD, List.getElem?_eq_getElem (by rw [lets_len]; exact h)]
  exact List.getElem_mem _
theorem lt_inj : ∀ j k : Fin 26, LT j.1 = LT k.1 → j = k := by decide +kernel
theorem q_name : ∀ k : Fin 26, nameS ("q" ++ chS (LT k.1)) = true ∧ ("q" ++ chS (LT k.1) : Str).cps.toList.getLast? = some (LT k.1) := by decide +kernel
def nmAt (k : Nat) (s : Str) : Prop := nameS s = true ∧ s.cps.toList.getLast? = some (LT k)
theorem words_split : (Txt.split "again at beat calm door ends first from go house in left long never none open post right second shut" " ").map D.str ++ (Txt.split "stand sweep to turns wall way wedge" " ").map D.str = WORDL := by
  have e1 : Txt.split "again at beat calm door ends first from go house in left long never none open post right second shut" " " = (["again", "at", "beat", "calm", "door", "ends", "first", "from", "go", "house", "in", "left", "long", "never", "none", "open", "post", "right", "second", "shut"] : List Str) := by decide +kernel
  have e2 : Txt.split "stand sweep to turns wall way wedge" " " = (["stand", "sweep", "to", "turns", "wall", "way", "wedge"] : List Str) := by decide +kernel
  rw [e1, e2]
  rfl
theorem wordS_of {s : Str} (h1 : s.cps.toList ≠ []) (h2 : ∀ k ∈ s.cps.toList, k ∈ LETS.cps.toList) : wordS s = true := by
  unfold wordS
  rw [Bool.and_eq_true]
  refine ⟨?_, List.all_eq_true.mpr fun k hk => decide_eq_true (h2 k hk)⟩
  cases hz : s == ("" : Str) with
  | false => rfl
  | true =>
    have := eq_of_beq hz
    subst this
    exact absurd rfl h1
theorem str_ok {s : Str} (h2 : ∀ k ∈ s.cps.toList, k ∈ LETS.cps.toList) (hl : s.cps.toList.length ≤ 8) : gd 20 (.str s) = true := by
  show (PyData.strOk s && decide (s.length ≤ 10000)) = true
  rw [str_len, decide_eq_true (by omega), Bool.and_true]
  unfold PyData.strOk
  rw [← Array.all_toList]
  exact List.all_eq_true.mpr fun k hk => decide_eq_true (lets_ok k (h2 k hk))
theorem okW {l : List D} (h : isW l) (n : Nat) : okDs n l = true := by
  obtain ⟨a, b, e, rfl, _⟩ := h
  rfl
def allW (c : Cells) : Prop := ∀ l ∈ c, isW l
theorem allW_set {c : Cells} {i : Nat} {l : List D} (h : allW c) (hl : isW l) : allW (c.set i l) := fun x hx => by
  rcases List.mem_or_eq_of_mem_set hx with q | q
  · exact h x q
  · rw [q]; exact hl
theorem split_ok {s y : Str} {c : Cells} (h : (decide (y.length ≠ 0) && decide (s.length + 2 ≤ 100000)) = true) : splitK s [.str y] c = some (.ok (.lst ((Txt.split s y).map .str)) c) := if_pos h
theorem add_str {x y : Str} {c : Cells} (h : sz (x.length + y.length) = true) : addK (.str x) (.str y) c = some (.ok (.str (x ++ y)) c) := if_pos h
theorem add_lst {x y : List D} {c : Cells} (h : sz (x.length + y.length) = true) : addK (.lst x) (.lst y) c = some (.ok (.lst (x ++ y)) c) := if_pos h
theorem empty_len : ("" : Str).cps.toList.length = 0 := by decide +kernel
theorem q_len : sz (("q" : Str).length + 1) = true := by decide +kernel
theorem empty_no (ch : Nat) : ¬ ch ∈ ("" : Str).cps.toList := fun h => by
  rw [List.eq_nil_of_length_eq_zero empty_len] at h
  cases h
theorem sz_words : sz WORDL.length = true := by decide +kernel
theorem okDs_strs (n : Nat) : ∀ zs : List Str, okDs n (zs.map D.str) = true
  | [] => rfl
  | z :: zs => by simp only [List.map_cons, okDs, okD, okDs_strs n zs, Bool.and_self]
theorem run_new {N : List Str} {b : SS} {ds xs : List D} {c c1 : Cells} (h : b (startE N ds) c = some (.ret (.tup xs) c1)) (hl : c1.length ≠ c.length) (h1 : okDs c.length xs = true) (h2 : okC c.length c1 = true) : runB finF N b ds c = some (.ok (.tup xs) (c1.take c.length)) := by
  have e : okD c.length (.tup xs) = true := by simp only [okD, h1]
  unfold runB
  rw [h]
  simp only [finF, if_neg hl, finF0, e, h2, Bool.and_self, if_true]
theorem okC_co {c : Cells} {i : Nat} {l X : List D} (h : allW c) (hl : isW l) : okC c.length (co c i l X) = true := by
  unfold okC
  rw [co_take]
  exact List.all_eq_true.mpr fun x hx => okW (allW_set h hl x hx) _
def Sp_names (f : G.FnT) : Prop := ∀ (c : Cells) (i : Nat) l (m : Nat), c[i]? = some l → allW c → m ≤ 6 → ∃ (l' : List D) (ns : List Str), isW l' ∧ ns.length = m ∧ (∀ s ∈ ns, nameS s = true) ∧ ns.Pairwise (fun a b => a.cps.toList < b.cps.toList) ∧ f [.cell i, .int m] c = some (.ok (.tup (ns.map D.str)) (c.set i l'))
theorem sp_names {f__law_of : G.FnT} (h1 : Sp_of f__law_of) (h2 : Sp_ofS f__law_of) : Sp_names (arK 2 (runB finF n__law_names (b__law_names f__law_of))) := fun c i l m hc hw hm => by
  have hi : i < c.length := len_pos_of' hc
  have hwl : isW l := hw l (List.mem_of_getElem? hc)
  have a1 := par2_ofX (k := 2) (l := 3) (env := startE n__law_names [.cell i, .int m]) (c := c) (c1 := co c i l []) (x := .cell c.length) (y := .str LETS) (f := consA (e1 newK nilA) (consA (cE (.str "abcdefghijklmnopqrstuvwxyz")) nilA))
    (px_cons (px_e1 (Pv.px pv_nil) (by show some (Out.ok (.cell c.length) (c ++ [[]])) = _; rw [co, set_self hc])) (Pv.px (pv_cons pv_c pv_nil)))
  have a3 : Pv (e2 addK (smE splitK (varE 4) (consA (cE (.str " ")) nilA)) (smE splitK (cE (.str "stand sweep to turns wall way wedge")) (consA (cE (.str " ")) nilA))) [some (.cell i), some (.int m), some (.cell c.length), some (.str LETS), some (.str "again at beat calm door ends first from go house in left long never none open post right second shut"), none, none, none] (co c i l []) (.lst WORDL) := by
    have e := add_lst (c := co c i l []) (x := (Txt.split "again at beat calm door ends first from go house in left long never none open post right second shut" " ").map D.str) (y := (Txt.split "stand sweep to turns wall way wedge" " ").map D.str) (by rw [← List.length_append, words_split]; exact sz_words)
    rw [words_split] at e
    exact pv_e2 (pv_sm (pv_var rfl) (pv_cons pv_c pv_nil) (split_ok (by decide +kernel))) (pv_sm pv_c (pv_cons pv_c pv_nil) (split_ok (by decide +kernel))) e
  have a4 := forL_inv (tg := nameG 5) (b := (seqS (asgS (cE (.str "")) (nameG 6)) (seqS (forS (e1 rng1K (consA (bE (arK 2 f__law_of) (consA (varE 0) (consA (e1 tupK (consA (cE (.int 0)) (consA (cE (.int 1)) (consA (cE (.int 2)) (consA (cE (.int 3)) (consA (cE (.int 7)) (nilA))))))) (nilA)))) nilA)) (nameG 7) (asgS (e2 addK (varE 6) (bE (arK 2 f__law_of) (consA (varE 0) (consA (varE 3) (nilA))))) (nameG 6))) (seqS (asgS (e2 addK (varE 6) (e2 ixK (varE 3) (varE 5))) (nameG 6)) (dropS (lmE appK (varE 2) (consA (ifE (e2 (inK false) (varE 6) (varE 4)) (e2 addK (cE (.str "q")) (e2 ixK (varE 3) (varE 5))) (varE 6)) nilA)))))))
    (fun items e c2 => ∃ (k r : Nat) (l2 : List D) (ns : List Str) (a b q : Option D), k + r = m ∧ items = (List.range' k r).map (fun (j : Nat) => D.int ((0 : Int) + (j : Nat))) ∧ e = [some (.cell i), some (.int m), some (.cell c.length), some (.str LETS), some (.lst WORDL), a, b, q] ∧ c2 = co c i l2 (ns.map D.str) ∧ isW l2 ∧ ns.length = k ∧ ∀ j s, ns[j]? = some s → nmAt j s)
    ((List.range m).map fun (j : Nat) => D.int ((0 : Int) + (j : Nat))) [some (.cell i), some (.int m), some (.cell c.length), some (.str LETS), some (.lst WORDL), none, none, none] (co c i l [])
    ⟨0, m, l, [], none, none, none, by omega, by rw [List.range_eq_range'], rfl, rfl, hwl, rfl, fun j s h => by simp at h⟩ (fun x rest e c2 ⟨k, r, l2, ns, a, b, q, hkr, hit, he, hc2, w2, hns, hnm⟩ => by
      cases r with
      | zero => simp at hit
      | succ r =>
        rw [List.range'_succ, List.map_cons] at hit
        obtain ⟨rfl, hrest⟩ := List.cons.inj hit
        subst he hc2
        have hk : k < 26 := by omega
        refine ⟨_, _, rfl, ?_⟩
        obtain ⟨l3, x, w3, hx, ex⟩ := h1 (co c i l2 (ns.map D.str)) i l2 (.tup [.int 0, .int 1, .int 2, .int 3, .int 7]) _ (co_get hi) w2 (.inl rfl) (by simp) (by simp)
        rw [co_set hi] at ex
        obtain ⟨j, hj, rfl⟩ : ∃ j : Nat, j ≤ 7 ∧ x = .int j := by
          simp only [List.mem_cons, List.not_mem_nil, or_false] at hx
          rcases hx with rfl | rfl | rfl | rfl | rfl
          · exact ⟨0, by omega, rfl⟩
          · exact ⟨1, by omega, rfl⟩
          · exact ⟨2, by omega, rfl⟩
          · exact ⟨3, by omega, rfl⟩
          · exact ⟨7, by omega, rfl⟩
        obtain ⟨e', c', f1, l4, s, q', w4, rfl, rfl, hs, hsl⟩ := forL_inv (tg := nameG 7) (b := asgS (e2 addK (varE 6) (bE (arK 2 f__law_of) (consA (varE 0) (consA (varE 3) (nilA))))) (nameG 6))
          (fun items e c2 => ∃ (l3 : List D) (s : Str) (q : Option D), isW l3 ∧ c2 = co c i l3 (ns.map D.str) ∧ e = [some (.cell i), some (.int m), some (.cell c.length), some (.str LETS), some (.lst WORDL), some (.int ((0 : Int) + (k : Nat))), some (.str s), q] ∧ (∀ ch ∈ s.cps.toList, ch ∈ LETS.cps.toList) ∧ s.cps.toList.length + items.length ≤ 7)
          ((List.range j).map fun (i : Nat) => D.int ((0 : Int) + (i : Nat))) [some (.cell i), some (.int m), some (.cell c.length), some (.str LETS), some (.lst WORDL), some (.int ((0 : Int) + (k : Nat))), some (.str ""), q] (co c i l3 (ns.map D.str))
          ⟨l3, "", q, w3, rfl, rfl, fun ch h => absurd h (empty_no ch), by rw [empty_len, List.length_map, List.length_range]; omega⟩ (fun y rest e c2 ⟨l4, s, q2, w4, hc4, he4, hs, hsl⟩ => by
            subst hc4 he4
            refine ⟨_, _, rfl, ?_⟩
            obtain ⟨l5, ch, w5, hch, ex5⟩ := h2 (co c i l4 (ns.map D.str)) i l4 LETS (co_get hi) w4 (by rw [lets_len]; omega) (by rw [lets_len]; omega)
            rw [co_set hi] at ex5
            simp only [List.length_cons] at hsl
            refine ⟨_, _, .inl ⟨asg_ofX (d := .str (s ++ chS ch)) (c1 := co c i l5 (ns.map D.str)) (px_e2 (Pv.px (d := .str s) (pv_var rfl)) (px_call (Pv.px (pv_cons (x := .cell i) (pv_var rfl) (pv_cons (x := .str LETS) (pv_var rfl) pv_nil))) rfl ex5) (add_str (decide_eq_true (by
              rw [str_len, str_len]
              show s.cps.toList.length + 1 ≤ _
              omega)))) rfl, l5, s ++ chS ch, _, w5, rfl, rfl, fun z hz => ?_, ?_⟩⟩
            · rw [str_app] at hz
              rcases List.mem_append.mp hz with z1 | z1
              · exact hs z z1
              · have : z = ch := by simpa [chS] using z1
                rw [this]; exact hch
            · rw [str_app, List.length_append]
              show s.cps.toList.length + 1 + _ ≤ 7
              omega)
        have ixl : ∀ (cc : Cells) (env : Ev), env[3]? = some (some (.str LETS)) → env[5]? = some (some (.int ((0 : Int) + (k : Nat)))) → Pv (e2 ixK (varE 3) (varE 5)) env cc (.str (chS (LT k))) := fun cc env g3 g5 => pv_e2 (pv_var g3) (pv_var g5) (by
          show (if sz LETS.length then (match atI LETS.cps.toList ((0 : Int) + (k : Nat)) with
            | some k => okd (.str ⟨#[k]⟩) cc
            | none => none) else none) = _
          rw [lt_at hk, if_pos (by decide +kernel)]
          rfl)
        simp only [List.length_nil, Nat.add_zero] at hsl
        have hs2 : ∀ ch ∈ (s ++ chS (LT k)).cps.toList, ch ∈ LETS.cps.toList := fun z hz => by
          rw [str_app] at hz
          rcases List.mem_append.mp hz with z1 | z1
          · exact hs z z1
          · have : z = LT k := by simpa [chS] using z1
            rw [this]; exact lt_mem hk
        have hl2 : (s ++ chS (LT k)).cps.toList.length ≤ 8 := by
          rw [str_app, List.length_append]
          show s.cps.toList.length + 1 ≤ 8
          omega
        have hne : (s ++ chS (LT k)).cps.toList ≠ [] := by
          rw [str_app]
          simp [chS]
        have gl2 : (s ++ chS (LT k)).cps.toList.getLast? = some (LT k) := by
          rw [str_app]
          simp [chS]
        obtain ⟨q1, q2⟩ := q_name ⟨k, hk⟩
        have qlen : sz (("q" : Str).length + (chS (LT k)).length) = true := by rw [str_len (chS (LT k))]; exact q_len
        have val : ∃ nm : Str, nmAt k nm ∧ Pv (ifE (e2 (inK false) (varE 6) (varE 4)) (e2 addK (cE (.str "q")) (e2 ixK (varE 3) (varE 5))) (varE 6)) [some (.cell i), some (.int m), some (.cell c.length), some (.str LETS), some (.lst WORDL), some (.int ((0 : Int) + (k : Nat))), some (.str (s ++ chS (LT k))), q'] (co c i l4 (ns.map D.str)) (.str nm) := by
          have t : Pv (e2 (inK false) (varE 6) (varE 4)) [some (.cell i), some (.int m), some (.cell c.length), some (.str LETS), some (.lst WORDL), some (.int ((0 : Int) + (k : Nat))), some (.str (s ++ chS (LT k))), q'] (co c i l4 (ns.map D.str)) (.bl (WORDL.any fun w => eqD w (.str (s ++ chS (LT k))))) :=
            pv_e2 (x := .str (s ++ chS (LT k))) (y := .lst WORDL) (pv_var rfl) (pv_var rfl) (in_lst (n := 20) (m := 20) false (str_ok hs2 hl2) (by decide +kernel))
          cases hz : WORDL.any fun w => eqD w (.str (s ++ chS (LT k))) with
          | true =>
            rw [hz] at t
            refine ⟨"q" ++ chS (LT k), ⟨q1, q2⟩, pv_if (x := .str ("q" ++ chS (LT k))) (y := .non) t (fun _ => pv_e2 pv_c (ixl _ _ rfl rfl) (add_str qlen)) (fun z => by cases z)⟩
          | false =>
            rw [hz] at t
            refine ⟨s ++ chS (LT k), ⟨?_, gl2⟩, pv_if (x := .non) (y := .str (s ++ chS (LT k))) t (fun z => by cases z) (fun _ => pv_var rfl)⟩
            unfold nameS
            rw [wordS_of hne hs2, hz, str_len, decide_eq_true hl2]
            rfl
        obtain ⟨nm, hnm2, pv2⟩ := val
        have ap := px_app (f := varE 2) (n := c.length) (l := ns.map D.str) (env := [some (.cell i), some (.int m), some (.cell c.length), some (.str LETS), some (.lst WORDL), some (.int ((0 : Int) + (k : Nat))), some (.str (s ++ chS (LT k))), q']) (c := co c i l4 (ns.map D.str)) (Pv.px (pv_var rfl)) co_last pv2 (by rw [List.length_map]; omega)
        rw [co_setlast] at ap
        refine ⟨_, _, .inl ⟨(seq_nx (e1 := [some (.cell i), some (.int m), some (.cell c.length), some (.str LETS), some (.lst WORDL), some (.int ((0 : Int) + (k : Nat))), some (.str ""), q]) (asg_of (pv_c (d := .str "")) rfl)).trans ((seq_nx ((for_ofX (px_e1 (px_cons (px_call (Pv.px (pv_cons (x := .cell i) (pv_var rfl) (pv_cons (pv_tup (pv_cons pv_c (pv_cons pv_c (pv_cons pv_c (pv_cons pv_c (pv_cons pv_c pv_nil))))) rfl) pv_nil))) rfl ex) px_nil) (rng_of (by omega)))).trans f1)).trans
          ((seq_nx (e1 := [some (.cell i), some (.int m), some (.cell c.length), some (.str LETS), some (.lst WORDL), some (.int ((0 : Int) + (k : Nat))), some (.str (s ++ chS (LT k))), q']) (asg_of (d := .str (s ++ chS (LT k))) (pv_e2 (x := .str s) (pv_var rfl) (ixl _ _ rfl rfl) (add_str (decide_eq_true (by
            rw [str_len, str_len]
            show s.cps.toList.length + 1 ≤ _
            omega)))) rfl)).trans (drop_ofX ap))), k + 1, r, l4, ns ++ [nm], _, _, _, by omega, hrest, rfl, by simp, w4, by simp [hns], fun j s hj => ?_⟩⟩
        by_cases hjk : j < ns.length
        · rw [List.getElem?_append_left hjk] at hj
          exact hnm j s hj
        · rw [List.getElem?_append_right (by omega)] at hj
          have : j - ns.length = 0 := by
            have := (List.getElem?_eq_some_iff.mp hj).1
            simp at this
            omega
          rw [this] at hj
          simp at hj
          rw [← hj, show j = k by omega]
          exact hnm2)
  obtain ⟨e', c', f1, k, r, l2, ns, a, b, q, hkr, hit, rfl, rfl, w2, hns, hnm⟩ := a4
  have hr : r = 0 := by
    cases r with
    | zero => rfl
    | succ r => rw [List.range'_succ] at hit; cases hit
  subst hr
  have hnd : ns.Nodup := by
    refine List.pairwise_iff_getElem.mpr fun j1 j2 hl1 hl2 h12 he => ?_
    have n1 := (hnm j1 _ (List.getElem?_eq_getElem hl1)).2
    have n2 := (hnm j2 _ (List.getElem?_eq_getElem hl2)).2
    rw [he, n2] at n1
    have := lt_inj ⟨j1, by omega⟩ ⟨j2, by omega⟩ (Option.some.inj n1).symm
    have := congrArg Fin.val this
    simp at this
    omega
  refine ⟨l2, sortS ns, w2, by rw [(sortS_perm ns).length_eq]; omega, fun s hs => ?_, sortS_lt hnd, (arK_eq rfl).trans ?_⟩
  · obtain ⟨j, hj⟩ := List.mem_iff_getElem?.mp ((sortS_perm ns).mem_iff.mp hs)
    exact (hnm j s hj).1
  · have body : b__law_names f__law_of (startE n__law_names [.cell i, .int m]) c = some (.ret (.tup ((sortS ns).map D.str)) (co c i l2 (ns.map D.str))) := by
      refine (seq_nx a1).trans ((seq_nx (asg_of (pv_c (d := .str "again at beat calm door ends first from go house in left long never none open post right second shut")) rfl)).trans ((seq_nx (asg_of a3 rfl)).trans ((seq_nx ((for_of (pv_e1 (pv_cons (x := .int m) (pv_var rfl) pv_nil) (rng_of (by omega)))).trans f1)).trans (ret_of (pv_b (pv_cons (pv_b (pv_cons (x := .cell c.length) (pv_var rfl) pv_nil) (d := .lst ((sortS ns).map D.str)) ?_) pv_nil) rfl)))))
      show (match lqview (co c i l2 (ns.map D.str)) (.cell c.length) with
        | some l => (match strsD l with
          | some ss => if decide (ss.length < 64) then some (Out.ok (.lst ((sortS ss).map .str)) (co c i l2 (ns.map D.str))) else none
          | none => none)
        | none => none) = _
      unfold lqview
      rw [rs_get co_last]
      show (match strsD (ns.map D.str) with
          | some ss => if decide (ss.length < 64) then some (Out.ok (.lst ((sortS ss).map .str)) (co c i l2 (ns.map D.str))) else none
          | none => none) = _
      rw [strsD_map]
      exact if_pos (decide_eq_true (by omega))
    have fin := run_new body (by rw [co_len]; omega) (okDs_strs _ _) (okC_co hw w2)
    rw [co_take] at fin
    exact fin
where len_pos_of' {c : Cells} {i : Nat} {l : List D} (h : c[i]? = some l) : i < c.length := (List.getElem?_eq_some_iff.mp h).1
end K59
set_option Elab.async false
set_option linter.all false
set_option maxRecDepth 100000
set_option maxHeartbeats 4000000
namespace K59
open PySem PySem.Spec PyProof.Rows L2 G
/-! ### the law's frames -/
/-- frames that stand as they should, perhaps none -/
def rowFs (bs : List Fr) : Prop := bs.length ≤ 6 ∧ (∀ (i : Nat) (r : Fr), bs[i]? = some r → nextOk r (bs.take i)) ∧ ∀ r ∈ bs, FrSm r
def Sp_frames (f : G.FnT) : Prop := ∀ (c : Cells) (i : Nat) l, c[i]? = some l → allW c → ∃ (l' : List D) (bs : List Fr), isW l' ∧ goodFs bs ∧ (∀ r ∈ bs, FrSm r) ∧ f [.cell i, .int 6] c = some (.ok (frs bs) (c.set i l'))
theorem rowFs_add {bs : List Fr} {r : Fr} (h : rowFs bs) (hn : nextOk r bs) (hs : FrSm r) (hl : bs.length + 1 ≤ 6) : rowFs (bs ++ [r]) := by
  refine ⟨by simp; omega, fun i x hx => ?_, fun x hx => ?_⟩
  · by_cases hi : i < bs.length
    · rw [List.getElem?_append_left hi] at hx
      rw [List.take_append_of_le_length (by omega)]
      exact h.2.1 i x hx
    · rw [List.getElem?_append_right (by omega)] at hx
      have e : i - bs.length = 0 := by
        have := (List.getElem?_eq_some_iff.mp hx).1
        simp at this
        omega
      rw [e] at hx
      simp at hx
      subst hx
      rw [show i = bs.length by omega, List.take_left']
      · exact hn
      · rfl
  · rcases List.mem_append.mp hx with q | q
    · exact h.2.2 x q
    · rw [List.mem_singleton.mp q]; exact hs
theorem add_tup {x y : List D} {c : Cells} (h : sz (x.length + y.length) = true) : addK (.tup x) (.tup y) c = some (.ok (.tup (x ++ y)) c) := if_pos h
/-- one try: a frame, and whether it was kept -/
def lapB (f__law_of f__law_draw f__law_touch : G.FnT) : SS := (seqS (par3S 6 7 8 (consA (bE (arK 2 f__law_draw) (consA (varE 0) (consA (varE 3) (nilA)))) (consA (bE (arK 2 f__law_draw) (consA (varE 0) (consA (varE 3) (nilA)))) (consA (e2 addK (cE (.int 2)) (bE (arK 2 f__law_draw) (consA (varE 0) (consA (cE (.int 9)) (nilA))))) (nilA))))) (seqS (asgS (e2 addK (e1 tupK (consA (varE 4) (consA (varE 6) (consA (varE 7) (nilA))))) (bE (arK 2 f__law_of) (consA (varE 0) (consA (e1 tupK (consA (e1 tupK (consA (e2 addK (varE 6) (varE 8)) (consA (varE 7) (nilA)))) (consA (e1 tupK (consA (varE 6) (consA (e2 addK (varE 7) (varE 8)) (nilA)))) (nilA)))) (nilA))))) (nameG 9)) (ifS (e2 eqK (lcE endL [10] (e1 iterK (varE 2)) (nameG 10) (bE (arK 2 f__law_touch) (consA (varE 10) (consA (varE 9) (nilA)))) (varE 10)) (e1 lstK (nilA))) (seqS (asgS (e2 addK (varE 2) (e1 tupK (consA (varE 9) (nilA)))) (nameG 2)) (brkS)) (skipS))))
def EF (i : Nat) (bs : List Fr) (w : Int) (n : Str) (a x y l f e : Option D) : Ev := [some (.cell i), some (.int 6), some (frs bs), some (.int w), some (.str n), a, x, y, l, f, e]
theorem lap_ok {f__law_of f__law_draw f__law_touch : G.FnT} (h1 : Sp_of f__law_of) (h2 : Sp_draw f__law_draw) (h3 : Sp_ltouch f__law_touch) {c : Cells} {i : Nat} {l : List D} {bs : List Fr} {w : Int} {n : Str} {a x y lo fr e : Option D}
    (hc : c[i]? = some l) (hw : isW l) (hb : rowFs bs) (hn : nameS n = true) (hlt : ∀ b ∈ bs, b.n.cps.toList < n.cps.toList) (hw0 : 0 < w) (hw1 : w ≤ 22) :
    ∃ (l' : List D) (x' y' lo' fr' : Option D), isW l' ∧ ((bs ≠ [] ∧ lapB f__law_of f__law_draw f__law_touch (EF i bs w n a x y lo fr e) c = some (.nx (EF i bs w n a x' y' lo' fr' e) (c.set i l'))) ∨
      ∃ r, r.n = n ∧ nextOk r bs ∧ FrSm r ∧ lapB f__law_of f__law_draw f__law_touch (EF i bs w n a x y lo fr e) c = some (.bk (EF i (bs ++ [r]) w n a x' y' lo' fr' e) (c.set i l'))) := by
  obtain ⟨l1, X, w1, X0, X1, g1⟩ := h2 c i l w hc hw hw0 (by omega)
  obtain ⟨l2, Y, w2, Y0, Y1, g2⟩ := h2 (c.set i l1) i l1 w (set_get hc) w1 hw0 (by omega)
  rw [List.set_set] at g2
  obtain ⟨l3, Z, w3, Z0, Z1, g3⟩ := h2 (c.set i l2) i l2 9 (set_get hc) w2 (by omega) (by omega)
  rw [List.set_set] at g3
  obtain ⟨l4, p, w4, hp, g4⟩ := h1 (c.set i l3) i l3 (.tup [v2 (X + (2 + Z)) Y, v2 X (Y + (2 + Z))]) _ (set_get hc) w3 (.inl rfl) (by simp) (by simp)
  rw [List.set_set] at g4
  obtain ⟨r, rn, rs, rd⟩ : ∃ r : Fr, r.n = n ∧ FrSm r ∧ ∀ cc, addK (.tup [.str n, .int X, .int Y]) p cc = some (.ok r.d cc) := by
    simp only [List.mem_cons, List.not_mem_nil, or_false] at hp
    rcases hp with rfl | rfl
    · refine ⟨⟨n, X, Y, X + (2 + Z), Y⟩, rfl, ⟨⟨hn, X0, Y0, ?_, ?_, .inr rfl, ?_, ?_, ?_, ?_⟩, ?_, ?_⟩, fun cc => rfl⟩ <;> simp only [Fr.wide] <;> omega
    · refine ⟨⟨n, X, Y, X, Y + (2 + Z)⟩, rfl, ⟨⟨hn, X0, Y0, ?_, ?_, .inl rfl, ?_, ?_, ?_, ?_⟩, ?_, ?_⟩, fun cc => rfl⟩ <;> simp only [Fr.wide] <;> omega
  have hfr : frD r.d = true := frD_iff.mpr rs.ok
  have s1 : par3S 6 7 8 (consA (bE (arK 2 f__law_draw) (consA (varE 0) (consA (varE 3) (nilA)))) (consA (bE (arK 2 f__law_draw) (consA (varE 0) (consA (varE 3) (nilA)))) (consA (e2 addK (cE (.int 2)) (bE (arK 2 f__law_draw) (consA (varE 0) (consA (cE (.int 9)) (nilA))))) (nilA)))) (EF i bs w n a x y lo fr e) c = some (.nx (EF i bs w n a (some (.int X)) (some (.int Y)) (some (.int (2 + Z))) fr e) (c.set i l3)) :=
    par3_ofX (x := .int X) (y := .int Y) (z := .int (2 + Z)) (px_cons (px_call (Pv.px (pv_cons (x := .cell i) (pv_var rfl) (pv_cons (x := .int w) (pv_var rfl) pv_nil))) rfl g1) (px_cons (px_call (Pv.px (pv_cons (x := .cell i) (pv_var rfl) (pv_cons (x := .int w) (pv_var rfl) pv_nil))) rfl g2) (px_cons (px_e2 (Pv.px (pv_c (d := .int 2))) (px_call (Pv.px (pv_cons (x := .cell i) (pv_var rfl) (pv_cons (pv_c (d := .int 9)) pv_nil))) rfl g3) rfl) px_nil)))
  have s2 : asgS (e2 addK (e1 tupK (consA (varE 4) (consA (varE 6) (consA (varE 7) (nilA))))) (bE (arK 2 f__law_of) (consA (varE 0) (consA (e1 tupK (consA (e1 tupK (consA (e2 addK (varE 6) (varE 8)) (consA (varE 7) (nilA)))) (consA (e1 tupK (consA (varE 6) (consA (e2 addK (varE 7) (varE 8)) (nilA)))) (nilA)))) (nilA))))) (nameG 9) (EF i bs w n a (some (.int X)) (some (.int Y)) (some (.int (2 + Z))) fr e) (c.set i l3) = some (.nx (EF i bs w n a (some (.int X)) (some (.int Y)) (some (.int (2 + Z))) (some r.d) e) (c.set i l4)) :=
    asg_ofX (px_e2 (Pv.px (d := .tup [.str n, .int X, .int Y]) rfl) (px_call (Pv.px (d := .tup [.cell i, .tup [v2 (X + (2 + Z)) Y, v2 X (Y + (2 + Z))]]) rfl) rfl g4) (rd _)) rfl
  have q : Pv (lcE endL [10] (e1 iterK (varE 2)) (nameG 10) (bE (arK 2 f__law_touch) (consA (varE 10) (consA (varE 9) (nilA)))) (varE 10)) (EF i bs w n a (some (.int X)) (some (.int Y)) (some (.int (2 + Z))) (some r.d) e) (c.set i l4) (.lst ((bs.filter fun b => touch b r).map Fr.d)) :=
    lc_filter bs Fr.d Fr.d (fun b => touch b r) (pv_e1 (x := frs bs) (pv_var rfl) rfl) (fun b hbm => ⟨_, rfl, pv_call (pv_cons (pv_var rfl) (pv_cons (x := r.d) (pv_var rfl) pv_nil)) rfl (h3 b r _ (hb.2.2 b hbm).ok rs.ok), pv_var rfl⟩) (by have := hb.1; omega)
  have q2 : Pv (e2 eqK (lcE endL [10] (e1 iterK (varE 2)) (nameG 10) (bE (arK 2 f__law_touch) (consA (varE 10) (consA (varE 9) (nilA)))) (varE 10)) (e1 lstK (nilA))) (EF i bs w n a (some (.int X)) (some (.int Y)) (some (.int (2 + Z))) (some r.d) e) (c.set i l4) (.bl ((bs.filter fun b => touch b r).map Fr.d).isEmpty) := by
    rw [← eqD_nilL]
    refine pv_e2 q (pv_lst pv_nil rfl) (eq_of (n := 20) (m := 1) ?_ rfl)
    show (gds 19 _ && decide (_ ≤ 10000)) = true
    rw [gds_of fun d hd => by
      obtain ⟨b, hbm, rfl⟩ := List.mem_map.mp hd
      exact gd_up (gd_fr (frD_iff.mpr (hb.2.2 b (List.mem_filter.mp hbm).1).ok))]
    have : ((bs.filter fun b => touch b r).map Fr.d).length ≤ bs.length := by rw [List.length_map]; exact List.length_filter_le _ _
    have := hb.1
    rw [decide_eq_true (by omega)]
    rfl
  refine ⟨l4, some (.int X), some (.int Y), some (.int (2 + Z)), some r.d, w4, ?_⟩
  cases hz : ((bs.filter fun b => touch b r).map Fr.d).isEmpty with
  | false =>
    rw [hz] at q2
    refine .inl ⟨fun e0 => ?_, (seq_nx s1).trans ((seq_nx s2).trans (if_of (a := false) q2))⟩
    rw [e0] at hz
    cases hz
  | true =>
    rw [hz] at q2
    have hf : ∀ b ∈ bs, touch b r = false := fun b hbm => by
      cases ht : touch b r with
      | false => rfl
      | true =>
        have : b ∈ bs.filter fun b => touch b r := List.mem_filter.mpr ⟨hbm, ht⟩
        have := List.mem_map_of_mem (f := Fr.d) this
        rw [List.isEmpty_iff.mp hz] at this
        cases this
    refine .inr ⟨r, rn, ⟨hfr, fun b hl => by rw [rn]; exact hlt b (List.mem_of_getLast? hl), hf⟩, rs, (seq_nx s1).trans ((seq_nx s2).trans ((if_of (a := true) q2).trans ((seq_nx (asg_of (d := frs (bs ++ [r])) (pv_e2 (x := frs bs) (y := .tup [r.d]) (pv_var rfl) (pv_tup (pv_cons (x := r.d) (pv_var rfl) pv_nil) rfl) ?_) rfl)).trans rfl)))⟩
    have hl := hb.1
    have := add_tup (x := bs.map Fr.d) (y := [r.d]) (c := c.set i l4) (decide_eq_true (by rw [List.length_map]; show bs.length + 1 ≤ _; omega))
    rw [show bs.map Fr.d ++ [r.d] = (bs ++ [r]).map Fr.d by rw [List.map_append]; rfl] at this
    exact this
theorem sp_frames {f__law_of f__law_draw f__law_names f__law_touch : G.FnT} (h1 : Sp_of f__law_of) (h2 : Sp_draw f__law_draw) (h3 : Sp_ltouch f__law_touch) (h4 : Sp_names f__law_names) : Sp_frames (arK 2 (runB finF n__law_frames (b__law_frames f__law_of f__law_draw f__law_names f__law_touch))) := fun c i l hc hw => by
  have hwl : isW l := hw l (List.mem_of_getElem? hc)
  obtain ⟨l1, p, w1, hp, g1⟩ := h1 c i l (.tup [.int 10, .int 16, .int 22]) _ hc hwl (.inl rfl) (by simp) (by simp)
  obtain ⟨w, w0, w9, rfl⟩ : ∃ w : Int, 0 < w ∧ w ≤ 22 ∧ p = .int w := by
    simp only [List.mem_cons, List.not_mem_nil, or_false] at hp
    rcases hp with rfl | rfl | rfl
    · exact ⟨10, by omega, by omega, rfl⟩
    · exact ⟨16, by omega, by omega, rfl⟩
    · exact ⟨22, by omega, by omega, rfl⟩
  obtain ⟨l2, d, w2, d0, d1, g2⟩ := h2 (c.set i l1) i l1 6 (set_get hc) w1 (by omega) (by omega)
  rw [List.set_set] at g2
  obtain ⟨k, rfl⟩ : ∃ k : Nat, d = k := ⟨d.toNat, by omega⟩
  obtain ⟨l3, ns, w3, hns, nok, nlt, g3⟩ := h4 (c.set i l2) i l2 (k + 1) (set_get hc) (allW_set hw w2) (by omega)
  rw [List.set_set] at g3
  have a1 := par2_ofX (k := 2) (l := 3) (env := startE n__law_frames [.cell i, .int 6]) (c := c) (c1 := c.set i l1) (x := frs []) (y := .int w) (f := consA (e1 tupK (nilA)) (consA (bE (arK 2 f__law_of) (consA (varE 0) (consA (e1 tupK (consA (cE (.int 10)) (consA (cE (.int 16)) (consA (cE (.int 22)) (nilA))))) (nilA)))) (nilA)))
    (px_cons (Pv.px (pv_tup pv_nil rfl)) (px_cons (px_call (Pv.px (d := .tup [.cell i, .tup [.int 10, .int 16, .int 22]]) rfl) rfl g1) px_nil))
  have it : Px (e1 iterK (bE (arK 2 f__law_names) (consA (varE 0) (consA (e2 addK (cE (.int 1)) (bE (arK 2 f__law_draw) (consA (varE 0) (consA (varE 1) (nilA))))) (nilA))))) [some (.cell i), some (.int 6), some (frs []), some (.int w), none, none, none, none, none, none, none] (c.set i l1) (.tup (ns.map D.str)) (c.set i l3) := by
    refine px_e1 (px_call (ds := [.cell i, .int ((k + 1 : Nat) : Int)]) (px_cons (Pv.px (pv_var rfl)) (px_cons (px_e2 (op := addK) (Pv.px (pv_c (d := .int 1))) (px_call (Pv.px (d := .tup [.cell i, .int 6]) rfl) rfl g2) ?_) px_nil)) rfl g3) rfl
    show some (Out.ok (.int (1 + (k : Int))) (c.set i l2)) = _
    rw [show (1 + (k : Int)) = ((k + 1 : Nat) : Int) by omega]
  obtain ⟨e', c', f1, l', bs, rest, nm, a, x, y, lo, fr, q, hit, rfl, rfl, w', hb, hlen, hlt, hpw, hok, hne⟩ := forL_inv (tg := nameG 4) (b := forS (e1 rng1K (consA (cE (.int 9)) nilA)) (nameG 5) (lapB f__law_of f__law_draw f__law_touch))
    (fun items e cc => ∃ (l' : List D) (bs : List Fr) (rest : List Str) (nm a x y lo fr q : Option D), items = rest.map D.str ∧ e = [some (.cell i), some (.int 6), some (frs bs), some (.int w), nm, a, x, y, lo, fr, q] ∧ cc = c.set i l' ∧ isW l' ∧ rowFs bs ∧ bs.length + rest.length ≤ 6 ∧ (∀ b ∈ bs, ∀ s ∈ rest, b.n.cps.toList < s.cps.toList) ∧ rest.Pairwise (fun (a b : Str) => a.cps.toList < b.cps.toList) ∧ (∀ s ∈ rest, nameS s = true) ∧ (bs = [] → rest ≠ []))
    (ns.map D.str) [some (.cell i), some (.int 6), some (frs []), some (.int w), none, none, none, none, none, none, none] (c.set i l3)
    ⟨l3, [], ns, none, none, none, none, none, none, none, rfl, rfl, rfl, w3, ⟨(by simp), (fun i r h => (by simp at h)), (fun r h => (by cases h))⟩, (by simp; omega), (fun b h => (by cases h)), nlt, nok, fun _ e => (by rw [e] at hns; simp at hns)⟩
    (fun z rest0 e cc ⟨l', bs, rest, nm, a, x, y, lo, fr, q, hit, he, hcc, w', hb, hlen, hlt, hpw, hok, hne⟩ => by
      subst he hcc
      cases rest with
      | nil => cases hit
      | cons n rest =>
        obtain ⟨rfl, rfl⟩ := List.cons.inj hit
        refine ⟨_, _, rfl, ?_⟩
        have pw := List.pairwise_cons.mp hpw
        simp only [List.length_cons] at hlen
        obtain ⟨e2, c2, f2, l4, bs2, a2, x2, y2, lo2, fr2, rfl, rfl, w4, alt⟩ := forL_inv (tg := nameG 5) (b := lapB f__law_of f__law_draw f__law_touch)
          (fun items e cc => ∃ (l4 : List D) (bs2 : List Fr) (a x y lo fr : Option D), e = EF i bs2 w n a x y lo fr q ∧ cc = c.set i l4 ∧ isW l4 ∧ ((bs2 = bs ∧ (bs = [] → items ≠ [])) ∨ (items = [] ∧ ∃ r, bs2 = bs ++ [r] ∧ r.n = n ∧ nextOk r bs ∧ FrSm r)))
          ((List.range 9).map fun (i : Nat) => D.int ((0 : Int) + (i : Nat))) (EF i bs w n a x y lo fr q) (c.set i l')
          ⟨l', bs, a, x, y, lo, fr, rfl, rfl, w', .inl ⟨rfl, fun _ => by simp⟩⟩ (fun t rest2 e cc ⟨l4, bs2, a, x, y, lo, fr, he, hcc, w4, alt⟩ => by
            subst he hcc
            rcases alt with ⟨rfl, _⟩ | ⟨h0, _⟩
            · refine ⟨_, _, rfl, ?_⟩
              obtain ⟨l5, x', y', lo', fr', w5, alt⟩ := lap_ok (a := some t) (x := x) (y := y) (lo := lo) (fr := fr) (e := q) h1 h2 h3 (set_get hc) w4 hb (hok n (by simp)) (fun b hbm => hlt b hbm n (by simp)) w0 w9
              rw [List.set_set] at alt
              rcases alt with ⟨h5, h6⟩ | ⟨r, h5, h6, h7, h8⟩
              · exact ⟨_, _, .inl ⟨h6, l5, bs2, _, _, _, _, _, rfl, rfl, w5, .inl ⟨rfl, fun z => absurd z h5⟩⟩⟩
              · exact ⟨_, _, .inr ⟨h8, l5, bs2 ++ [r], _, _, _, _, _, rfl, rfl, w5, .inr ⟨rfl, r, rfl, h5, h6, h7⟩⟩⟩
            · cases h0)
        refine ⟨_, _, .inl ⟨(for_of (pv_e1 (pv_cons (pv_c (d := .int 9)) pv_nil) (rng_of (n := 9) (by omega)))).trans f2, l4, bs2, rest, _, _, _, _, _, _, _, rfl, rfl, rfl, w4, ?_⟩⟩
        rcases alt with ⟨rfl, h5⟩ | ⟨_, r, rfl, h5, h6, h7⟩
        · exact ⟨hb, by omega, fun b hbm s hs => hlt b hbm s (by simp [hs]), pw.2, fun s hs => hok s (by simp [hs]), fun z => absurd rfl (h5 z)⟩
        · refine ⟨rowFs_add hb h6 h7 (by omega), by simp; omega, fun b hbm s hs => ?_, pw.2, fun s hs => hok s (by simp [hs]), fun z => absurd z (by simp)⟩
          rcases List.mem_append.mp hbm with g | g
          · exact hlt b g s (by simp [hs])
          · rw [List.mem_singleton.mp g, h5]
            exact pw.1 s hs)
  have hr : rest = [] := by
    cases rest with
    | nil => rfl
    | cons a b => cases hit
  subst hr
  exact ⟨l', bs, w', ⟨fun z => absurd rfl (hne z), hb.1, hb.2.1⟩, hb.2.2, (arK_eq rfl).trans (run_retC (c1 := c.set i l') ((seq_nx a1).trans ((seq_nx ((for_ofX it).trans f1)).trans (ret_of (pv_var rfl)))) (by simp))⟩
end K59
set_option Elab.async false
set_option linter.all false
set_option maxRecDepth 100000
set_option maxHeartbeats 4000000
namespace K59
open PySem PySem.Spec PyProof.Rows L2 G
theorem pv_kw {ix : List Nat} {n m : Nat} {g : G.FnT} {f fk : SE} {env : Ev} {c : Cells} {ds es : List D} {d : D} (h : Pv f env c (.tup ds)) (h2 : Pv fk env c (.tup es)) (hl : ds.length = n ∧ es.length = m) (h3 : g (reo ix ds es) c = some (.ok d c)) : Pv (kwE ix n m g f fk) env c d := by
  show bindO (f env c) (fun d c1 => match d with
    | .tup ds => bindO (fk env c1) (kwK ix n m g ds)
    | _ => none) = _
  rw [show f env c = _ from h]
  show bindO (fk env c) (kwK ix n m g ds) = _
  rw [show fk env c = _ from h2]
  show (if ds.length = n ∧ es.length = m then g (reo ix ds es) c else none) = _
  rw [if_pos hl]
  exact h3
def repB (b : Bool) : Str := if b then "[True, True]" else "[False, False]"
theorem rep_b (b : Bool) (c : Cells) : repK [.lst [.bl b, .bl b]] c = some (.ok (.str (repB b)) c) := by
  have e : (toPy (.lst [.bl b, .bl b])).shown = repB b := by cases b <;> decide +kernel
  have s : ∃ n, shb (.lst [.bl b, .bl b]) = some n ∧ n ≤ 1000000 := by cases b <;> exact ⟨_, rfl, by decide +kernel⟩
  obtain ⟨n, h1, h2⟩ := s
  show (match shb (.lst [.bl b, .bl b]) with
    | some n => if fit 60 (.lst [.bl b, .bl b]) && G.isObj (.lst [.bl b, .bl b]) && decide (n ≤ 1000000) then some (Out.ok (.str (toPy (.lst [.bl b, .bl b])).shown) c) else none
    | none => none) = _
  rw [h1, e]
  exact if_pos (by rw [decide_eq_true h2]; rfl)
theorem gd_repB (b : Bool) : gd 0 (.str (repB b)) = true := by cases b <;> decide +kernel
/-- what is tried of one frame -/
def kB (f_hanging_leaf f_is_leaf f__law_same f__law_near f_is_frame : G.FnT) : SS := (seqS (asgS (e2 ixK (varE 2) (varE 4)) (tupG 2 (consG (nameG 5) (consG (nameG 6) (nilG))))) (seqS (asgS (e1 tupK (consA (bE (arK 3 f_hanging_leaf) (consA (e2 ixK (varE 1) (varE 4)) (consA (varE 5) (consA (varE 6) (nilA))))) (consA (kwE [0, 1, 2] 2 1 f_hanging_leaf (consA (e2 ixK (varE 1) (varE 4)) (consA (varE 5) (nilA))) (consA (varE 6) (nilA))) (nilA)))) (nameG 7)) (seqS (ifS (orE (notE (bE (arK 2 f__law_same) (consA (varE 7) (consA (e1 tupK (consA (e2 ixK (varE 3) (varE 4)) (consA (e2 ixK (varE 3) (varE 4)) (nilA)))) (nilA))))) (e2 notbK (kwE [0] 0 1 f_is_leaf nilA (consA (e2 ixK (varE 7) (cE (.int 0))) (nilA))) (cE (.bl true)))) (retS (cE (.bl false))) (skipS)) (seqS (asgS (bE (arK 2 f__law_near) (consA (varE 0) (consA (e2 ixK (varE 1) (varE 4)) (nilA)))) (tupG 2 (consG (nameG 8) (consG (nameG 9) (nilG))))) (ifS (e2 neK (bE repK (consA (e1 lstK (consA (bE (arK 1 f_is_frame) (consA (varE 8) (nilA))) (consA (kwE [0] 0 1 f_is_frame nilA (consA (varE 8) (nilA))) (nilA)))) nilA)) (bE repK (consA (e1 lstK (consA (varE 9) (consA (varE 9) (nilA)))) nilA))) (retS (cE (.bl false))) (skipS))))))
def ER (i : Nat) (bs : List Fr) (hs : List Hg) (k p s t v d h f : Option D) : Ev := [some (.cell i), some (frs bs), some (hgs hs), some (lvs bs hs), k, p, s, t, v, d, h, f]
theorem at_map {α : Type} {l : List α} {g : α → D} {k : Nat} {a : α} (h : l[k]? = some a) : atI (l.map g) ((0 : Int) + (k : Nat)) = some (g a) := by
  have hk := (List.getElem?_eq_some_iff.mp h).1
  unfold atI ixN
  rw [if_pos (by omega), if_pos (by rw [List.length_map]; omega)]
  simp [h]
theorem kB_ok {f_hanging_leaf f_is_leaf f__law_same f__law_near f_is_frame : G.FnT} (h1 : Sp_hanging_leaf f_hanging_leaf) (h2 : Sp_is_leaf_form f_is_leaf) (h3 : Sp_same 6 f__law_same) (h4 : Sp_near f__law_near) (h5 : Sp_is_frame_form f_is_frame) {c : Cells} {i : Nat} {l : List D} {bs : List Fr} {hs : List Hg} {k : Nat} {p s t v d h f : Option D}
    (hc : c[i]? = some l) (hw : isW l) (hb : ∀ r ∈ bs, FrSm r) (hl : bs.length = hs.length) (hk : k < bs.length) :
    ∃ (l' : List D) (p' s' t' v' d' : Option D), isW l' ∧ kB f_hanging_leaf f_is_leaf f__law_same f__law_near f_is_frame (ER i bs hs (some (.int ((0 : Int) + (k : Nat)))) p s t v d h f) c = some (.nx (ER i bs hs (some (.int ((0 : Int) + (k : Nat)))) p' s' t' v' d' h f) (c.set i l')) := by
  have hr : bs[k]? = some bs[k] := List.getElem?_eq_getElem hk
  have hh : hs[k]? = some (hs[k]'(by omega)) := List.getElem?_eq_getElem (by omega)
  generalize bs[k] = r at hr
  generalize hs[k]'(by omega) = g at hh
  have rs := hb r (List.mem_of_getElem? hr)
  have hz : (bs.zip hs)[k]? = some (r, g) := List.getElem?_zip_eq_some.mpr ⟨hr, hh⟩
  have ix1 : ∀ (cc : Cells) (p s t v d : Option D), Pv (e2 ixK (varE 1) (varE 4)) (ER i bs hs (some (.int ((0 : Int) + (k : Nat)))) p s t v d h f) cc r.d := fun cc p s t v d => pv_e2 (x := frs bs) (y := .int ((0 : Int) + (k : Nat))) (pv_var rfl) (pv_var rfl) (by
    show (match atI (bs.map Fr.d) ((0 : Int) + (k : Nat)) with | some d => okd d cc | none => none) = _
    rw [at_map hr]; rfl)
  have ix2 : ∀ (cc : Cells) (p s t v d : Option D), Pv (e2 ixK (varE 2) (varE 4)) (ER i bs hs (some (.int ((0 : Int) + (k : Nat)))) p s t v d h f) cc (hgD g) := fun cc p s t v d => pv_e2 (x := hgs hs) (y := .int ((0 : Int) + (k : Nat))) (pv_var rfl) (pv_var rfl) (by
    show (match atI (hs.map hgD) ((0 : Int) + (k : Nat)) with | some d => okd d cc | none => none) = _
    rw [at_map hh]; rfl)
  have ix3 : ∀ (cc : Cells) (p s t v d : Option D), Pv (e2 ixK (varE 3) (varE 4)) (ER i bs hs (some (.int ((0 : Int) + (k : Nat)))) p s t v d h f) cc (hungD r g.1 g.2) := fun cc p s t v d => pv_e2 (x := lvs bs hs) (y := .int ((0 : Int) + (k : Nat))) (pv_var rfl) (pv_var rfl) (by
    show (match atI ((bs.zip hs).map fun q => hungD q.1 q.2.1 q.2.2) ((0 : Int) + (k : Nat)) with | some d => okd d cc | none => none) = _
    rw [at_map hz]; rfl)
  have hfr : frD r.d = true := frD_iff.mpr rs.ok
  have gl := gd_hung rs.ok g.1 g.2
  obtain ⟨l', val, w', gv, e4⟩ := h4 c i l r hc hw rs
  have s1 := asg_of (tg := tupG 2 (consG (nameG 5) (consG (nameG 6) (nilG)))) (e2 := ER i bs hs (some (.int ((0 : Int) + (k : Nat)))) (some (.str (postS g.1))) (some (.str (sideS g.2))) t v d h f) (c2 := c) (ix2 c p s t v d) rfl
  have p2 : Pv (e1 tupK (consA (bE (arK 3 f_hanging_leaf) (consA (e2 ixK (varE 1) (varE 4)) (consA (varE 5) (consA (varE 6) (nilA))))) (consA (kwE [0, 1, 2] 2 1 f_hanging_leaf (consA (e2 ixK (varE 1) (varE 4)) (consA (varE 5) (nilA))) (consA (varE 6) (nilA))) (nilA)))) (ER i bs hs (some (.int ((0 : Int) + (k : Nat)))) (some (.str (postS g.1))) (some (.str (sideS g.2))) t v d h f) c (.tup [hungD r g.1 g.2, hungD r g.1 g.2]) :=
    pv_tup (pv_cons (pv_call (pv_cons (ix1 _ _ _ _ _ _) (pv_cons (pv_var rfl) (pv_cons (pv_var rfl) pv_nil))) rfl (h1 r g.1 g.2 c hfr)) (pv_cons (pv_kw (pv_cons (ix1 _ _ _ _ _ _) (pv_cons (pv_var rfl) pv_nil)) (pv_cons (pv_var rfl) pv_nil) ⟨rfl, rfl⟩ (h1 r g.1 g.2 c hfr)) pv_nil)) rfl
  have s2 := asg_of (tg := nameG 7) (e2 := ER i bs hs (some (.int ((0 : Int) + (k : Nat)))) (some (.str (postS g.1))) (some (.str (sideS g.2))) (some (.tup [hungD r g.1 g.2, hungD r g.1 g.2])) v d h f) (c2 := c) p2 rfl
  have gt : gd 6 (.tup [hungD r g.1 g.2, hungD r g.1 g.2]) = true := by
    have := gd_up (m := 5) gl
    show (gds 5 [hungD r g.1 g.2, hungD r g.1 g.2] && true) = true
    simp only [gds, this, Bool.and_self]
  have p3 := pv_or (a := !true) (b := false) (f := notE (bE (arK 2 f__law_same) (consA (varE 7) (consA (e1 tupK (consA (e2 ixK (varE 3) (varE 4)) (consA (e2 ixK (varE 3) (varE 4)) (nilA)))) (nilA))))) (g := e2 notbK (kwE [0] 0 1 f_is_leaf nilA (consA (e2 ixK (varE 7) (cE (.int 0))) (nilA))) (cE (.bl true))) (env := ER i bs hs (some (.int ((0 : Int) + (k : Nat)))) (some (.str (postS g.1))) (some (.str (sideS g.2))) (some (.tup [hungD r g.1 g.2, hungD r g.1 g.2])) v d h f) (c := c)
    (pv_not (pv_call (pv_cons (pv_var rfl) (pv_cons (pv_tup (pv_cons (ix3 _ _ _ _ _ _) (pv_cons (ix3 _ _ _ _ _ _) pv_nil)) rfl) pv_nil)) rfl (h3 _ c gt)))
    (fun _ => pv_e2 (x := .bl true) (y := .bl true) (by
      rw [← leaf_hung rs.ok g.1 g.2]
      exact pv_kw pv_nil (pv_cons (pv_e2 (x := .tup [hungD r g.1 g.2, hungD r g.1 g.2]) (pv_var rfl) pv_c rfl) pv_nil) ⟨rfl, rfl⟩ (h2 (hungD r g.1 g.2) c (gd_up gl))) pv_c rfl)
  have s4 := asg_ofX (tg := tupG 2 (consG (nameG 8) (consG (nameG 9) (nilG)))) (f := bE (arK 2 f__law_near) (consA (varE 0) (consA (e2 ixK (varE 1) (varE 4)) (nilA)))) (env := ER i bs hs (some (.int ((0 : Int) + (k : Nat)))) (some (.str (postS g.1))) (some (.str (sideS g.2))) (some (.tup [hungD r g.1 g.2, hungD r g.1 g.2])) v d h f) (e2 := ER i bs hs (some (.int ((0 : Int) + (k : Nat)))) (some (.str (postS g.1))) (some (.str (sideS g.2))) (some (.tup [hungD r g.1 g.2, hungD r g.1 g.2])) (some val) (some (.bl (frD val))) h f) (c := c) (c2 := c.set i l')
    (px_call (Pv.px (pv_cons (x := .cell i) (pv_var rfl) (pv_cons (ix1 _ _ _ _ _ _) pv_nil))) rfl e4) rfl
  have p5 : Pv (e2 neK (bE repK (consA (e1 lstK (consA (bE (arK 1 f_is_frame) (consA (varE 8) (nilA))) (consA (kwE [0] 0 1 f_is_frame nilA (consA (varE 8) (nilA))) (nilA)))) nilA)) (bE repK (consA (e1 lstK (consA (varE 9) (consA (varE 9) (nilA)))) nilA))) (ER i bs hs (some (.int ((0 : Int) + (k : Nat)))) (some (.str (postS g.1))) (some (.str (sideS g.2))) (some (.tup [hungD r g.1 g.2, hungD r g.1 g.2])) (some val) (some (.bl (frD val))) h f) (c.set i l') (.bl (!eqD (.str (repB (frD val))) (.str (repB (frD val))))) :=
    pv_e2 (pv_b (pv_cons (pv_lst (pv_cons (pv_call (pv_cons (x := val) (pv_var rfl) pv_nil) rfl (h5 val _ gv)) (pv_cons (pv_kw pv_nil (pv_cons (x := val) (pv_var rfl) pv_nil) ⟨rfl, rfl⟩ (h5 val _ gv)) pv_nil)) rfl) pv_nil) (rep_b _ _)) (pv_b (pv_cons (pv_lst (pv_cons (x := .bl (frD val)) (pv_var rfl) (pv_cons (x := .bl (frD val)) (pv_var rfl) pv_nil)) rfl) pv_nil) (rep_b _ _)) (ne_of (gd_repB _) (gd_repB _))
  rw [eqD_refl 0 _ (gd_repB _)] at p5
  exact ⟨l', _, _, _, _, _, w', (seq_nx s1).trans ((seq_nx s2).trans ((seq_nx (if_of (a := !true || false) p3)).trans ((seq_nx s4).trans (if_of (a := false) p5))))⟩
theorem range_map {xs : List D} {n : Nat} (h : xs.length = n) : (List.range n).map (fun k => xs.getD k .non) = xs := by
  apply List.ext_getElem
  · simp [h]
  · intro j h1 h2
    simp [List.getD_eq_getElem?_getD, List.getElem?_eq_getElem h2]
def Sp_right (f : G.FnT) : Prop := ∀ (c : Cells) (i : Nat) l, c[i]? = some l → allW c → ∃ l', isW l' ∧ f [.cell i] c = some (.ok (.bl true) (c.set i l'))
theorem sp_right {f__law_frames f__law_choices f__law_hung f_hanging_leaf f_is_leaf f__law_same f__law_near f_is_frame f_frames_house f_names_of f_is_house : G.FnT} (a1 : Sp_frames f__law_frames) (a2 : Sp_choices f__law_choices) (a3 : Sp_lhung f__law_hung) (h1 : Sp_hanging_leaf f_hanging_leaf) (h2 : Sp_is_leaf_form f_is_leaf) (h3 : Sp_same 6 f__law_same) (h4 : Sp_near f__law_near) (h5 : Sp_is_frame_form f_is_frame) (h6 : Sp_frames_house f_frames_house) (h7 : Sp_names_of f_names_of) (h8 : Sp_is_house_form f_is_house) :
    Sp_right (arK 1 (runB finF n__law_right (b__law_right f__law_frames f__law_choices f__law_hung f_hanging_leaf f_is_leaf f__law_same f__law_near f_is_frame f_frames_house f_names_of f_is_house))) := fun c i l hc hw => by
  obtain ⟨l1, bs, w1, hg, hsm, g1⟩ := a1 c i l hc hw
  obtain ⟨l2, hs, w2, hl, g2⟩ := a2 (c.set i l1) i l1 bs (set_get hc) w1 (by have := hg.2.1; omega)
  rw [List.set_set] at g2
  have hl' : bs.length = hs.length := hl.symm
  have h6' := hg.2.1
  have s1 := asg_ofX (tg := nameG 1) (f := bE (arK 2 f__law_frames) (consA (varE 0) (consA (cE (.int 6)) (nilA)))) (env := startE n__law_right [.cell i]) (c := c) (e2 := [some (.cell i), some (frs bs), none, none, none, none, none, none, none, none, none, none]) (c2 := c.set i l1) (px_call (Pv.px (d := .tup [.cell i, .int 6]) rfl) rfl g1) rfl
  have s2 := asg_ofX (tg := nameG 2) (f := bE (arK 2 f__law_choices) (consA (varE 0) (consA (varE 1) (nilA)))) (env := [some (.cell i), some (frs bs), none, none, none, none, none, none, none, none, none, none]) (c := c.set i l1) (e2 := [some (.cell i), some (frs bs), some (hgs hs), none, none, none, none, none, none, none, none, none]) (c2 := c.set i l2) (px_call (Pv.px (d := .tup [.cell i, frs bs]) rfl) rfl g2) rfl
  have hlen : ∀ (cc : Cells) (env : Ev), env[1]? = some (some (frs bs)) → Pv (e1 rng1K (consA (bE lenK (consA (varE 1) nilA)) nilA)) env cc (.tup ((List.range bs.length).map fun i => D.int ((0 : Int) + (i : Nat)))) := fun cc env he =>
    pv_e1 (pv_cons (pv_b (d := .int bs.length) (pv_cons (pv_var he) pv_nil) (by
      show okd (.int (bs.map Fr.d).length) cc = _
      rw [List.length_map]; rfl)) pv_nil) (rng_of (by omega))
  have p3 : Pv (bE tupleK (consA (lcE endL [4] (e1 rng1K (consA (bE lenK (consA (varE 1) nilA)) nilA)) (nameG 4) (yesE) (bE (arK 2 f__law_hung) (consA (e2 ixK (varE 1) (varE 4)) (consA (e2 ixK (varE 2) (varE 4)) (nilA))))) nilA)) [some (.cell i), some (frs bs), some (hgs hs), none, none, none, none, none, none, none, none, none] (c.set i l2) (lvs bs hs) := by
    have q := lc_of (it := e1 rng1K (consA (bE lenK (consA (varE 1) nilA)) nilA)) (tg := nameG 4) (el := bE (arK 2 f__law_hung) (consA (e2 ixK (varE 1) (varE 4)) (consA (e2 ixK (varE 2) (varE 4)) (nilA)))) (env := [some (.cell i), some (frs bs), some (hgs hs), none, none, none, none, none, none, none, none, none]) (c := c.set i l2) (vs := [4]) (List.range bs.length) (fun i => D.int ((0 : Int) + (i : Nat))) (fun k => (lvl bs hs).getD k .non) (hlen _ _ rfl) (fun k hk => by
      have hk' := List.mem_range.mp hk
      have hr : bs[k]? = some bs[k] := List.getElem?_eq_getElem hk'
      have hh : hs[k]? = some (hs[k]'(by omega)) := List.getElem?_eq_getElem (by omega)
      generalize bs[k] = r at hr
      generalize hs[k]'(by omega) = g at hh
      have hz : (bs.zip hs)[k]? = some (r, g) := List.getElem?_zip_eq_some.mpr ⟨hr, hh⟩
      have e : (lvl bs hs).getD k .non = hungD r g.1 g.2 := by
        rw [List.getD_eq_getElem?_getD]
        unfold lvl
        rw [List.getElem?_map, hz]
        rfl
      refine ⟨_, rfl, ?_⟩
      rw [e]
      refine pv_call (pv_cons (pv_e2 (x := frs bs) (y := .int ((0 : Int) + (k : Nat))) (d := r.d) (pv_var rfl) (pv_var rfl) ?_) (pv_cons (pv_e2 (x := hgs hs) (y := .int ((0 : Int) + (k : Nat))) (d := hgD g) (pv_var rfl) (pv_var rfl) ?_) pv_nil)) rfl (a3 r g _ (hsm r (List.mem_of_getElem? hr)).ok)
      · show (match atI (bs.map Fr.d) ((0 : Int) + (k : Nat)) with | some d => okd d (c.set i l2) | none => none) = _
        rw [at_map hr]; rfl
      · show (match atI (hs.map hgD) ((0 : Int) + (k : Nat)) with | some d => okd d (c.set i l2) | none => none) = _
        rw [at_map hh]; rfl) (by simp; omega)
    rw [range_map (lvl_len hl')] at q
    exact pv_b (pv_cons q pv_nil) rfl
  have s3 := asg_of (tg := nameG 3) (e2 := ER i bs hs none none none none none none none none) (c2 := c.set i l2) p3 rfl
  obtain ⟨e', c', f1, l3, k', p', s', t', v', d', rfl, rfl, w3, _⟩ := forL_inv (tg := nameG 4) (b := kB f_hanging_leaf f_is_leaf f__law_same f__law_near f_is_frame)
    (fun items e cc => ∃ (l3 : List D) (k p s t v d : Option D), e = ER i bs hs k p s t v d none none ∧ cc = c.set i l3 ∧ isW l3 ∧ ∀ x ∈ items, ∃ k : Nat, k < bs.length ∧ x = .int ((0 : Int) + (k : Nat)))
    ((List.range bs.length).map fun i => D.int ((0 : Int) + (i : Nat))) (ER i bs hs none none none none none none none none) (c.set i l2)
    ⟨l2, none, none, none, none, none, none, rfl, rfl, w2, fun x hx => by
      obtain ⟨k, hk, rfl⟩ := List.mem_map.mp hx
      exact ⟨k, List.mem_range.mp hk, rfl⟩⟩
    (fun x rest e cc ⟨l3, k, p, s, t, v, d, he, hcc, w3, hx⟩ => by
      subst he hcc
      obtain ⟨k, hk, rfl⟩ := hx x (by simp)
      refine ⟨_, _, rfl, ?_⟩
      obtain ⟨l4, p', s', t', v', d', w4, e4⟩ := kB_ok (p := p) (s := s) (t := t) (v := v) (d := d) (h := none) (f := none) h1 h2 h3 h4 h5 (set_get hc) w3 hsm hl' hk
      rw [List.set_set] at e4
      exact ⟨_, _, .inl ⟨e4, l4, _, _, _, _, _, _, rfl, rfl, w4, fun y hy => hx y (by simp [hy])⟩⟩)
  have s4 := (for_of (b := kB f_hanging_leaf f_is_leaf f__law_same f__law_near f_is_frame) (tg := nameG 4) (hlen (c.set i l2) (ER i bs hs none none none none none none none none) rfl)).trans f1
  have s5 := asg_of (tg := nameG 10) (f := kwE [0, 1] 1 1 f_frames_house (consA (varE 1) (nilA)) (consA (varE 2) (nilA))) (env := ER i bs hs k' p' s' t' v' d' none none) (c := c.set i l3) (e2 := ER i bs hs k' p' s' t' v' d' (some (hsD bs hs)) none) (c2 := c.set i l3) (pv_kw (pv_cons (x := frs bs) (pv_var rfl) pv_nil) (pv_cons (x := hgs hs) (pv_var rfl) pv_nil) ⟨rfl, rfl⟩ (h6 bs hs _ hg hl')) rfl
  have gh := gd_hs (hs := hs) hg
  have g6 : gd 6 (.tup [hsD bs hs, hsD bs hs]) = true := by
    have := gd_up (m := 5) gh
    show (gds 5 [hsD bs hs, hsD bs hs] && true) = true
    simp only [gds, this, Bool.and_self]
  have vl : ∀ cc, Pv (varE 3) (ER i bs hs k' p' s' t' v' d' (some (hsD bs hs)) none) cc (lvs bs hs) := fun cc => pv_var rfl
  have p6 := pv_not (pv_call (n := 2) (ds := [.tup [hsD bs hs, hsD bs hs], .tup [hsD bs hs, hsD bs hs]]) (k := f__law_same) (f := consA (e1 tupK (consA (bE (arK 2 f_frames_house) (consA (varE 1) (consA (varE 2) (nilA)))) (consA (varE 10) (nilA)))) (consA (e1 tupK (consA (e1 tupK (consA (varE 3) (consA (e1 tupK (nilA)) (nilA)))) (consA (e1 tupK (consA (varE 3) (consA (e1 tupK (nilA)) (nilA)))) (nilA)))) (nilA))) (env := ER i bs hs k' p' s' t' v' d' (some (hsD bs hs)) none) (c := c.set i l3)
    (pv_cons (pv_tup (pv_cons (pv_call (pv_cons (x := frs bs) (pv_var rfl) (pv_cons (x := hgs hs) (pv_var rfl) pv_nil)) rfl (h6 bs hs _ hg hl')) (pv_cons (pv_var rfl) pv_nil)) rfl) (pv_cons (pv_tup (pv_cons (pv_tup (pv_cons (vl _) (pv_cons (pv_tup pv_nil rfl) pv_nil)) rfl) (pv_cons (pv_tup (pv_cons (vl _) (pv_cons (pv_tup pv_nil rfl) pv_nil)) rfl) pv_nil)) rfl) pv_nil)) rfl (h3 _ _ g6))
  have s6 := if_of (s := retS (cE (.bl false))) (u := skipS) p6
  have en : (lvl bs hs).map (fun l => D.str (nmOf l)) = bs.map fun r => D.str r.n := by
    have : bs = (bs.zip hs).map Prod.fst := by rw [List.map_fst_zip (by omega)]
    unfold lvl
    rw [List.map_map]
    conv => rhs; rw [this, List.map_map]
    apply List.map_congr_left
    intro q _
    show D.str (nmOf (hungD q.1 q.2.1 q.2.2)) = D.str q.1.n
    rw [nm_hung]
  have gn : gd 6 (.tup (bs.map fun r => D.str r.n)) = true := by
    show (gds 5 (bs.map fun r => D.str r.n) && decide ((bs.map fun r => D.str r.n).length ≤ 10000)) = true
    rw [gds_of fun d hd => by
      obtain ⟨r, hr, rfl⟩ := List.mem_map.mp hd
      exact gd_name (hsm r hr).ok.nm]
    simp
    omega
  have e7 := h7 (lvl bs hs) (.tup []) (c.set i l3) (gd_up gh) (house_hung hg hl') (lvl_leaf hg) (by rw [lvl_len hl']; omega)
  rw [en] at e7
  have p7 : Pv (bE tupleK (consA (lcE endL [11] (e1 iterK (varE 1)) (nameG 11) (yesE) (e2 ixK (varE 11) (cE (.int 0)))) nilA)) (ER i bs hs k' p' s' t' v' d' (some (hsD bs hs)) none) (c.set i l3) (.tup (bs.map fun r => D.str r.n)) :=
    pv_b (pv_cons (lc_of bs Fr.d (fun r => D.str r.n) (pv_e1 (x := frs bs) (pv_var rfl) rfl) (fun r _ => ⟨_, rfl, pv_e2 (x := r.d) (pv_var rfl) pv_c rfl⟩) (by omega)) pv_nil) rfl
  have p8 := pv_and (f := e2 isbK (kwE [0] 0 1 f_is_house nilA (consA (varE 10) (nilA))) (cE (.bl true))) (a := true) (pv_e2 (x := .bl true) (y := .bl true) (by
      rw [← house_hung hg hl']
      exact pv_kw pv_nil (pv_cons (x := hsD bs hs) (pv_var rfl) pv_nil) ⟨rfl, rfl⟩ (h8 (hsD bs hs) _ (gd_up gh))) pv_c rfl) fun _ => pv_call (n := 2) (k := f__law_same) (pv_cons (pv_kw (g := f_names_of) (ix := [0]) pv_nil (pv_cons (x := hsD bs hs) (pv_var (i := 10) (env := ER i bs hs k' p' s' t' v' d' (some (hsD bs hs)) none) rfl) pv_nil) ⟨rfl, rfl⟩ e7) (pv_cons p7 pv_nil)) rfl (h3 _ _ gn)
  exact ⟨l3, w3, (arK_eq rfl).trans (run_retC (c1 := c.set i l3) ((seq_nx s1).trans ((seq_nx s2).trans ((seq_nx s3).trans ((seq_nx s4).trans ((seq_nx s5).trans ((seq_nx s6).trans (ret_of p8))))))) (by simp))⟩
end K59
set_option Elab.async false
set_option linter.all false
set_option maxRecDepth 100000
set_option maxHeartbeats 4000000
namespace K59
open PySem PySem.Spec PyProof.Rows L2 G
def Sp_well (f : G.FnT) : Prop := ∀ (ns : List Int) (lap : Nat) (c : Cells), ns.length ≤ 1000 → allW c → ∃ l, isW l ∧ f [.scr (ns.map D.int), .int lap] c = some (.ok (.cell c.length) (c ++ [l]))
theorem run_cell {N : List Str} {b : SS} {ds xs : List D} {c : Cells} (h : b (startE N ds) c = some (.ret (.cell c.length) (c ++ [xs]))) (h1 : isW xs) (h2 : allW c) : runB finC N b ds c = some (.ok (.cell c.length) (c ++ [xs])) := by
  have e : okC c.length (c ++ [xs]) = true := by
    unfold okC
    rw [List.take_left' rfl]
    exact List.all_eq_true.mpr fun x hx => okW (h2 x hx) _
  unfold runB
  rw [h]
  simp only [finC, Nat.lt_irrefl, if_false, List.getElem?_append_right (Nat.le_refl _), Nat.sub_self, List.getElem?_cons_zero, okW h1, e, Bool.and_self, if_true, List.take_left' rfl]
theorem sp_well : Sp_well (arK 2 (runB finC n__law_well b__law_well)) := fun ns lap c hl hw => by
  have s1 := asg_of (tg := nameG 2) (f := e2 addK (cE (.int 130577)) (e2 mulK (cE (.int 7013)) (varE 1))) (env := startE n__law_well [.scr (ns.map D.int), .int lap]) (c := c) (pv_add pv_c (pv_mul pv_c (pv_var rfl) (mulOkL (by decide) (by decide)))) rfl
  obtain ⟨e', c', f1, st, b, rfl, rfl, _⟩ := forL_inv (tg := nameG 3) (b := asgS (e2 modK (bE intK (consA (e2 addK (e2 addK (e2 mulK (varE 2) (cE (.int 45281))) (e2 modK (bE intK (consA (varE 3) nilA)) (cE (.int 2147483549)))) (cE (.int 19))) nilA)) (cE (.int 2147483563))) (nameG 2))
    (fun items e cc => ∃ (st : Int) (b : Option D), e = [some (.scr (ns.map D.int)), some (.int lap), some (.int st), b, none] ∧ cc = c ∧ ∀ x ∈ items, ∃ k : Int, x = .int k)
    (cutD (ns.map D.int) none (some 12)) [some (.scr (ns.map D.int)), some (.int lap), some (.int (130577 + 7013 * lap)), none, none] c
    ⟨_, none, rfl, rfl, fun x hx => by
      have : x ∈ ns.map D.int := List.mem_of_mem_drop (List.mem_of_mem_take hx)
      obtain ⟨k, _, rfl⟩ := List.mem_map.mp this
      exact ⟨k, rfl⟩⟩
    (fun x rest e cc ⟨st, b, he, hcc, hx⟩ => by
      subst he hcc
      obtain ⟨k, rfl⟩ := hx x (by simp)
      refine ⟨_, _, rfl, _, _, .inl ⟨asg_of (pv_mod (pv_int (pv_add (pv_add (pv_mul (pv_var rfl) pv_c (mulOkR (by decide) (by decide))) (pv_mod (pv_int (pv_var rfl)) pv_c (by decide))) pv_c)) pv_c (by decide)) rfl, _, _, rfl, rfl, fun y hy => hx y (by simp [hy])⟩⟩)
  have s2 := (for_of (b := asgS (e2 modK (bE intK (consA (e2 addK (e2 addK (e2 mulK (varE 2) (cE (.int 45281))) (e2 modK (bE intK (consA (varE 3) nilA)) (cE (.int 2147483549)))) (cE (.int 19))) nilA)) (cE (.int 2147483563))) (nameG 2)) (tg := nameG 3) (it := e1 iterK (slE (varE 0) (none) (some (cE (.int 12))))) (c := c') (env := [some (.scr (ns.map D.int)), some (.int lap), some (.int (130577 + 7013 * lap)), none, none]) (pv_e1 (x := .lst (cutD (ns.map D.int) none (some 12))) (pv_slice (l := none) (h := some 12) (x := .scr (ns.map D.int)) (pv_var rfl) True.intro pv_c rfl) rfl)).trans f1
  have qown : ∃ own : Int, Pv (ifE (e2 ltK (varE 1) (bE lenK (consA (varE 0) nilA))) (bE intK (consA (e2 ixK (varE 0) (varE 1)) nilA)) (cE (.int 0))) [some (.scr (ns.map D.int)), some (.int lap), some (.int st), b, none] c' (.int own) := by
    have t : Pv (e2 ltK (varE 1) (bE lenK (consA (varE 0) nilA))) [some (.scr (ns.map D.int)), some (.int lap), some (.int st), b, none] c' (.bl (decide ((lap : Int) < ((ns.map D.int).length : Nat)))) := pv_e2 (pv_var rfl) (pv_b (pv_cons (x := .scr (ns.map D.int)) (pv_var rfl) pv_nil) rfl) rfl
    by_cases h : (lap : Int) < ((ns.map D.int).length : Nat)
    · rw [decide_eq_true h] at t
      have hlap : lap < ns.length := by rw [List.length_map] at h; omega
      have hat : atI (ns.map D.int) (lap : Int) = some (.int ns[lap]) := by
        have := at_map (g := D.int) (List.getElem?_eq_getElem hlap)
        rw [Int.zero_add] at this
        exact this
      refine ⟨ns[lap], pv_if (y := .non) t (fun _ => pv_int (pv_e2 (x := .scr (ns.map D.int)) (y := .int lap) (pv_var rfl) (pv_var rfl) ?_)) (fun z => by cases z)⟩
      show (match atI (ns.map D.int) (lap : Int) with | some d => okd d c' | none => none) = _
      rw [hat]; rfl
    · rw [decide_eq_false h] at t
      exact ⟨0, pv_if (x := .non) t (fun z => by cases z) (fun _ => pv_c)⟩
  obtain ⟨own, qown⟩ := qown
  have s3 := asg_of (tg := nameG 4) qown (e2 := [some (.scr (ns.map D.int)), some (.int lap), some (.int st), b, some (.int own)]) (c2 := c') rfl
  have s4 := asg_of (tg := nameG 2) (f := e2 modK (bE intK (consA (e2 addK (e2 addK (e2 mulK (varE 2) (cE (.int 41))) (e2 mulK (e2 modK (bE intK (consA (varE 4) nilA)) (cE (.int 2147483549))) (cE (.int 15031)))) (cE (.int 5))) nilA)) (cE (.int 2147483563))) (env := [some (.scr (ns.map D.int)), some (.int lap), some (.int st), b, some (.int own)]) (c := c')
    (pv_mod (pv_int (pv_add (pv_add (pv_mul (pv_var rfl) pv_c (mulOkR (by decide) (by decide))) (pv_mul (pv_mod (pv_int (pv_var rfl)) pv_c (by decide)) pv_c (mulOkR (by decide) (by decide)))) pv_c)) pv_c (by decide)) rfl
  have qa : ∃ a : Int, 0 ≤ a ∧ ∀ env : Ev, env[4]? = some (some (.int own)) → Pv (ifE (orE (e2 ltK (varE 4) (cE (.int 0))) (e2 geK (varE 4) (e2 powK (cE (.int 10)) (cE (.int 15))))) (bE absK (consA (varE 4) nilA)) (cE (.int 0))) env c' (.int a) := by
    have t : ∀ env : Ev, env[4]? = some (some (.int own)) → Pv (orE (e2 ltK (varE 4) (cE (.int 0))) (e2 geK (varE 4) (e2 powK (cE (.int 10)) (cE (.int 15))))) env c' (.bl (decide (own < 0) || decide (10 ^ 15 ≤ own))) := fun env h => pv_or (pv_e2 (pv_var h) pv_c rfl) fun _ => pv_e2 (y := .int (10 ^ 15)) (pv_var h) (pv_e2 pv_c pv_c rfl) rfl
    cases hz : decide (own < 0) || decide (10 ^ 15 ≤ own) with
    | true =>
      refine ⟨if own < 0 then -own else own, by split <;> omega, fun env h => pv_if (y := .non) (by have := t env h; rw [hz] at this; exact this) (fun _ => pv_b (pv_cons (pv_var h) pv_nil) rfl) (fun z => by cases z)⟩
    | false => exact ⟨0, by omega, fun env h => pv_if (x := .non) (by have := t env h; rw [hz] at this; exact this) (fun z => by cases z) (fun _ => pv_c)⟩
  obtain ⟨a, a0, qa⟩ := qa
  refine ⟨[.int a, .int _, .int 0], ⟨_, _, _, rfl, a0⟩, (arK_eq rfl).trans (run_cell ((seq_nx s1).trans ((seq_nx s2).trans ((seq_nx s3).trans ((seq_nx s4).trans (ret_ofX (px_e1 (Pv.px (pv_cons (qa _ rfl) (pv_cons (pv_var rfl) (pv_cons pv_c pv_nil)))) rfl)))))) ⟨_, _, _, rfl, a0⟩ hw)⟩
theorem sp_law {f__law_well f__law_right : G.FnT} (h1 : Sp_well f__law_well) (h2 : Sp_right f__law_right) (ns : List Int) (hl : ns.length ≤ 1000) : ∃ c, arK 1 (runB finF n_law (b_law f__law_well f__law_right)) [.scr (ns.map D.int)] [] = some (.ok (.bl true) c) := by
  obtain ⟨acc, c1, q1, w1, l1, ea, _⟩ := px_lc (it := e1 rng1K (consA (cE (.int 2)) nilA)) (tg := nameG 2) (tt := yesE) (el := bE (arK 2 f__law_well) (consA (varE 0) (consA (varE 2) nilA))) (env := startE n_law [.scr (ns.map D.int)]) (c := []) (c1 := []) (vs := [2])
    (fun items acc cc => allW cc ∧ cc.length + items.length = 2 ∧ acc = (List.range cc.length).map (fun i => D.cell i) ∧ ∀ x ∈ items, ∃ lap : Nat, x = .int lap) (Pv.px (pv_e1 (pv_cons (pv_c (d := .int 2)) pv_nil) (rng_of (n := 2) (by omega))))
    ⟨fun l h => (by cases h), rfl, rfl, fun x hx => by
      obtain ⟨k, _, rfl⟩ := List.mem_map.mp hx
      exact ⟨k, by rw [Int.zero_add]⟩⟩
    (fun x rest acc cc ⟨hw, hlen, ea, hx⟩ => by
      obtain ⟨lap, rfl⟩ := hx x (by simp)
      obtain ⟨l, w, e⟩ := h1 ns lap cc hl hw
      simp only [List.length_cons] at hlen
      refine ⟨by rw [ea]; simp; omega, _, _, _, _, rfl, pv_c, px_call (Pv.px (pv_cons (x := .scr (ns.map D.int)) (pv_var rfl) (pv_cons (x := .int lap) (pv_var rfl) pv_nil))) rfl e, fun l' hl' => ?_, by simp; omega, ?_, fun y hy => hx y (by simp [hy])⟩
      · rcases List.mem_append.mp hl' with g | g
        · exact hw l' g
        · rw [List.mem_singleton.mp g]; exact w
      · rw [ea, List.length_append]
        show _ = (List.range (cc.length + 1)).map _
        rw [List.range_succ, List.map_append]
        rfl)
  simp only [List.length_nil, Nat.add_zero] at l1
  have ea2 : acc = [.cell 0, .cell 1] := by rw [ea, l1]; rfl
  subst ea2
  have s1 := asg_ofX (tg := nameG 1) q1 (e2 := [some (.scr (ns.map D.int)), some (.lst [.cell 0, .cell 1]), none, none]) (c2 := c1) rfl
  obtain ⟨acc, c2, q2, w2, l2, n, eb, _⟩ := px_lc (it := e1 rng1K (consA (cE (.int 16)) nilA)) (tg := nameG 3) (tt := yesE) (el := bE (arK 1 f__law_right) (consA (e2 ixK (varE 1) (e2 modK (bE intK (consA (varE 3) nilA)) (cE (.int 2)))) nilA)) (env := [some (.scr (ns.map D.int)), some (.lst [.cell 0, .cell 1]), none, none]) (c := c1) (c1 := c1) (vs := [3])
    (fun items acc cc => allW cc ∧ cc.length = 2 ∧ ∃ n : Nat, acc = (List.range n).map (fun _ => D.bl true) ∧ n + items.length = 16 ∧ ∀ x ∈ items, ∃ k : Nat, x = .int k) (Pv.px (pv_e1 (pv_cons (pv_c (d := .int 16)) pv_nil) (rng_of (n := 16) (by omega))))
    ⟨w1, l1, 0, rfl, rfl, fun x hx => by
      obtain ⟨k, _, rfl⟩ := List.mem_map.mp hx
      exact ⟨k, by rw [Int.zero_add]⟩⟩
    (fun x rest acc cc ⟨hw, hlen, n, ea, hn, hx⟩ => by
      obtain ⟨k, rfl⟩ := hx x (by simp)
      have m0 := Int.fmod_nonneg_of_pos (k : Int) (show (0 : Int) < 2 by decide)
      have m1 := Int.fmod_lt_of_pos (k : Int) (show (0 : Int) < 2 by decide)
      obtain ⟨j, hj, ej⟩ : ∃ j : Nat, j < 2 ∧ atI [D.cell 0, D.cell 1] (Int.fmod (k : Int) 2) = some (.cell j) := by
        generalize Int.fmod (k : Int) 2 = z at m0 m1
        have : z = 0 ∨ z = 1 := by omega
        rcases this with rfl | rfl
        · exact ⟨0, by omega, rfl⟩
        · exact ⟨1, by omega, rfl⟩
      have hc : cc[j]? = some (cc[j]'(by omega)) := List.getElem?_eq_getElem (by omega)
      obtain ⟨l', w', e⟩ := h2 cc j _ hc hw
      simp only [List.length_cons] at hn
      refine ⟨by rw [ea]; simp; omega, _, _, _, _, rfl, pv_c, px_call (ds := [.cell j]) (Pv.px (pv_cons (pv_e2 (x := .lst [.cell 0, .cell 1]) (pv_var rfl) (pv_mod (pv_int (i := (k : Int)) (pv_var rfl)) pv_c (by decide)) ?_) pv_nil)) rfl e, allW_set hw w', by rw [List.length_set]; exact hlen, n + 1, ?_, by omega, fun y hy => hx y (by simp [hy])⟩
      · show (match atI [D.cell 0, D.cell 1] (Int.fmod (k : Int) 2) with | some d => okd d cc | none => none) = _
        rw [ej]; rfl
      · rw [ea, List.range_succ, List.map_append]
        rfl)
  subst eb
  have e3 := all_of (l := List.range n) (p := fun _ => true) (c := c2)
  have e4 : (List.range n).all (fun _ => true) = true := by simp
  rw [e4] at e3
  refine ⟨[], (arK_eq rfl).trans ?_⟩
  have body := (seq_nx s1).trans (ret_ofX (px_b (px_cons q2 px_nil) e3))
  unfold runB
  rw [show b_law f__law_well f__law_right (startE n_law [.scr (ns.map D.int)]) [] = _ from body]
  have z : ¬ c2.length = 0 := by omega
  simp only [finF, List.length_nil, z, if_false]
  rfl
end K59
set_option Elab.async false
set_option linter.all false
set_option maxRecDepth 100000
set_option maxHeartbeats 4000000
namespace K59
open PySem PySem.Spec PyProof.Rows L2 G
theorem L_same : ∀ (k : Nat) (n : Nat), k ≤ 10 → k + 1 ≤ n → Sp_same k (callF n 49)
  | 0, _ + 1, _, _ => sp_same0
  | k + 1, m + 1, h1, h2 => sp_same (L_same k m (by omega) (by omega)) (by omega)
theorem L__law_same6 : ∀ n, 7 ≤ n → Sp_same 6 (callF n 49) := fun n h => L_same 6 n (by omega) (by omega)
theorem L_wrong_at : ∀ m, Sp_wrong_at (callF m) (callF (m + 1) 3) := fun _ => sp_wrong_at
theorem L_wrong_from_one : ∀ m, Sp_wrong_from_one (callF m) (callF (m + 2) 4) := fun m => sp_wrong_from_one (L_wrong_at m)
theorem L_wrong_for_all : ∀ m, Sp_wrong_for_all (callF m) (callF (m + 2) 5) := fun m => sp_wrong_for_all (L_wrong_at m)
theorem L_is_whole : ∀ n, 1 ≤ n → Sp_is_whole (callF n 0)
  | _ + 1, _ => sp_is_whole
theorem L_is_number : ∀ n, 2 ≤ n → Sp_is_number (callF n 1)
  | m + 1, h => sp_is_number (L_is_whole m (by omega))
theorem L_is_tuple_of : ∀ n, 1 ≤ n → Sp_is_tuple_of (callF n 2)
  | _ + 1, _ => sp_is_tuple_of
theorem L_is_above_last : ∀ n, 1 ≤ n → Sp_is_above_wall (callF n 6)
  | _ + 1, _ => sp_is_above_wall
theorem L_is_word : ∀ n, 1 ≤ n → Sp_is_word (callF n 7)
  | _ + 1, _ => sp_is_word
theorem L_is_name : ∀ n, 2 ≤ n → Sp_is_name (callF n 8)
  | m + 1, h => sp_is_name (L_is_word m (by omega))
theorem L_is_one_of : ∀ n, 1 ≤ n → Sp_is_one_of (callF n 9)
  | _ + 1, _ => sp_is_one_of
theorem L_is_heading_form : ∀ n, 3 ≤ n → Sp_is_heading_form (callF n 10)
  | m + 1, h => sp_is_heading_form (L_is_number m (by omega)) (L_is_tuple_of m (by omega))
theorem L_quarter_left : ∀ n, 1 ≤ n → Sp_quarter_left (callF n 11)
  | _ + 1, _ => sp_quarter_left
theorem L_opposite : ∀ n, 1 ≤ n → Sp_opposite (callF n 12)
  | _ + 1, _ => sp_opposite
theorem L_other_turn : ∀ n, 1 ≤ n → Sp_other_turn (callF n 13)
  | _ + 1, _ => sp_other_turn
theorem L_is_place_number : ∀ n, 3 ≤ n → Sp_is_place_number (callF n 14)
  | m + 1, h => sp_is_place_number (L_is_number m (by omega))
theorem L_is_leaf_form : ∀ n, 4 ≤ n → Sp_is_leaf_form (callF n 15)
  | m + 1, h => sp_is_leaf_form (L_is_place_number m (by omega)) (L_is_name m (by omega)) (L_is_tuple_of m (by omega)) (L_is_one_of m (by omega)) (L_is_number m (by omega)) (L_is_heading_form m (by omega))
theorem L_name_in : ∀ n, 1 ≤ n → Sp_name_in (callF n 16)
  | _ + 1, _ => sp_name_in
theorem L_hinge_of : ∀ n, 1 ≤ n → Sp_hinge_of (callF n 17)
  | _ + 1, _ => sp_hinge_of
theorem L_is_wall_form : ∀ n, 4 ≤ n → Sp_is_wall_form (callF n 18)
  | m + 1, h => sp_is_wall_form (L_is_place_number m (by omega)) (L_is_tuple_of m (by omega))
theorem L_is_next_leaf : ∀ n, 5 ≤ n → Sp_is_next_leaf (callF n 19)
  | m + 1, h => sp_is_next_leaf (L_is_leaf_form m (by omega)) (L_hinge_of m (by omega))
theorem L_wide_of : ∀ n, 1 ≤ n → Sp_wide_of (callF n 25)
  | _ + 1, _ => sp_wide_of
theorem L_is_frame_form : ∀ n, 4 ≤ n → Sp_is_frame_form (callF n 26)
  | m + 1, h => sp_is_frame_form (L_is_place_number m (by omega)) (L_is_name m (by omega)) (L_is_tuple_of m (by omega)) (L_wide_of m (by omega))
theorem L_do_frames_touch : ∀ n, 1 ≤ n → Sp_do_frames_touch (callF n 27)
  | _ + 1, _ => sp_do_frames_touch
theorem L_is_next_frame : ∀ n, 5 ≤ n → Sp_is_next_frame (callF n 28)
  | m + 1, h => sp_is_next_frame (L_is_frame_form m (by omega)) (L_do_frames_touch m (by omega))
theorem L_is_hanging : ∀ n, 2 ≤ n → Sp_is_hanging (callF n 30)
  | m + 1, h => sp_is_hanging (L_is_one_of m (by omega)) (L_is_tuple_of m (by omega))
theorem L_wrong_walls : ∀ n, 7 ≤ n → Sp_wrong_walls (callF n 20)
  | m + 3, h => sp_wrong_walls (φ := callF (m + 1)) (L_wrong_at (m + 1)) fun x bs c h1 h2 h3 => sp_walls_lam (L_is_above_last m (by omega)) (L_is_wall_form m (by omega)) h1 h2 h3
theorem L_is_house_form : ∀ n, 9 ≤ n → Sp_is_house_form (callF n 21)
  | m + 3, h => sp_is_house_form (φ := callF m) (L_wrong_from_one m) (L_is_tuple_of (m + 2) (by omega)) (L_wrong_walls (m + 2) (by omega)) (L_is_next_leaf m (by omega))
theorem L_wrong_frames : ∀ n, 8 ≤ n → Sp_wrong_frames (callF n 29)
  | m + 3, h => sp_wrong_frames (φ := callF m) (L_wrong_from_one m) (L_is_next_frame m (by omega))
theorem L_wrong_hangings : ∀ n, 8 ≤ n → Sp_wrong_hangings (callF n 31)
  | m + 4, h => sp_wrong_hangings (φ := callF (m + 1)) (L_wrong_for_all (m + 1)) fun _ _ _ => sp_hangings_lam (L_is_hanging m (by omega))
theorem L_leaf_names : ∀ n, 2 ≤ n → Sp_leaf_names (callF n 22)
  | m + 1, h => sp_leaf_names (L_name_in m (by omega))
theorem L_check_turn : ∀ n, 2 ≤ n → Sp_check_turn (callF n 23)
  | m + 1, h => sp_check_turn (L_is_one_of m (by omega))
theorem L_check_house : ∀ n, 10 ≤ n → Sp_check_house (callF n 24)
  | m + 1, h => sp_check_house (L_is_house_form m (by omega))
theorem L_heading_along : ∀ n, 1 ≤ n → Sp_heading_along (callF n 32)
  | _ + 1, _ => sp_heading_along
theorem L_hung_leaf : ∀ n, 2 ≤ n → Sp_hung_leaf (callF n 33)
  | m + 1, h => sp_hung_leaf (L_wide_of m (by omega)) (L_heading_along m (by omega)) (L_quarter_left m (by omega)) (L_opposite m (by omega)) (L_other_turn m (by omega))
theorem L_hung_by : ∀ n, 3 ≤ n → Sp_hung_by (callF n 34)
  | m + 1, h => sp_hung_by (L_hung_leaf m (by omega))
theorem L_all_hung : ∀ n, 4 ≤ n → Sp_all_hung (callF n 35)
  | m + 1, h => sp_all_hung (L_hung_by m (by omega))
theorem L_check_frame : ∀ n, 5 ≤ n → Sp_check_frame (callF n 36)
  | m + 1, h => sp_check_frame (L_is_frame_form m (by omega))
theorem L_check_post : ∀ n, 2 ≤ n → Sp_check_post (callF n 37)
  | m + 1, h => sp_check_post (L_is_one_of m (by omega))
theorem L_check_frames : ∀ n, 9 ≤ n → Sp_check_frames (callF n 38)
  | m + 1, h => sp_check_frames (L_wrong_frames m (by omega))
theorem L_check_hangings : ∀ n, 10 ≤ n → Sp_check_hangings (callF n 39)
  | m + 1, h => sp_check_hangings (L_check_frames m (by omega)) (L_wrong_hangings m (by omega))
theorem L_is_frame : ∀ n, 5 ≤ n → Sp_is_frame_form (callF n 40)
  | m + 1, h => sp_is_frame (L_is_frame_form m (by omega))
theorem L_hanging_leaf : ∀ n, 6 ≤ n → Sp_hanging_leaf (callF n 41)
  | m + 1, h => sp_hanging_leaf (L_check_frame m (by omega)) (L_check_post m (by omega)) (L_check_turn m (by omega)) (L_hung_leaf m (by omega))
theorem L_frames_house : ∀ n, 11 ≤ n → Sp_frames_house (callF n 42)
  | m + 1, h => sp_frames_house (L_check_hangings m (by omega)) (L_all_hung m (by omega))
theorem L_is_house : ∀ n, 10 ≤ n → Sp_is_house_form (callF n 43)
  | m + 1, h => sp_is_house (L_is_house_form m (by omega))
theorem L_names_of : ∀ n, 11 ≤ n → Sp_names_of (callF n 44)
  | m + 1, h => sp_names_of (L_check_house m (by omega)) (L_leaf_names m (by omega))
theorem L_is_leaf : ∀ n, 5 ≤ n → Sp_is_leaf_form (callF n 45)
  | m + 1, h => sp_is_leaf (L_is_leaf_form m (by omega))
theorem L__law_well : ∀ n, 1 ≤ n → Sp_well (callF n 46)
  | _ + 1, _ => sp_well
theorem L__law_draw : ∀ n, 1 ≤ n → Sp_draw (callF n 47)
  | _ + 1, _ => sp_draw
theorem L__law_of : ∀ n, 2 ≤ n → Sp_of (callF n 48)
  | m + 1, h => sp_of (L__law_draw m (by omega))
theorem L__law_ofS : ∀ n, 2 ≤ n → Sp_ofS (callF n 48)
  | m + 1, h => sp_ofS (L__law_draw m (by omega))
theorem L__law_names : ∀ n, 3 ≤ n → Sp_names (callF n 50)
  | m + 1, h => sp_names (L__law_of m (by omega)) (L__law_ofS m (by omega))
theorem L__law_touch : ∀ n, 1 ≤ n → Sp_ltouch (callF n 52)
  | _ + 1, _ => sp_ltouch
theorem L__law_frames : ∀ n, 4 ≤ n → Sp_frames (callF n 51)
  | m + 1, h => sp_frames (L__law_of m (by omega)) (L__law_draw m (by omega)) (L__law_touch m (by omega)) (L__law_names m (by omega))
theorem L__law_hung : ∀ n, 1 ≤ n → Sp_lhung (callF n 53)
  | _ + 1, _ => sp_lhung
theorem L__law_hangings : ∀ n, 1 ≤ n → Sp_lhangings (callF n 54)
  | _ + 1, _ => fun c => (arK_eq rfl).trans (sp_lhangings c)
theorem L__law_choices : ∀ n, 3 ≤ n → Sp_choices (callF n 55)
  | m + 1, h => sp_choices (L__law_hangings m (by omega)) (L__law_of m (by omega))
theorem L__law_near : ∀ n, 3 ≤ n → Sp_near (callF n 56)
  | m + 1, h => sp_near (L__law_of m (by omega))
theorem L__law_right : ∀ n, 12 ≤ n → Sp_right (callF n 57)
  | m + 1, h => sp_right (L__law_frames m (by omega)) (L__law_choices m (by omega)) (L__law_hung m (by omega)) (L_hanging_leaf m (by omega)) (L_is_leaf m (by omega)) (L__law_same6 m (by omega)) (L__law_near m (by omega)) (L_is_frame m (by omega)) (L_frames_house m (by omega)) (L_names_of m (by omega)) (L_is_house m (by omega))
theorem law_holds (ns : List Int) (hl : ns.length ≤ 63) : ∃ c, callF 20 58 [.scr (ns.map D.int)] [] = some (.ok (.bl true) c) := sp_law (L__law_well 19 (by omega)) (L__law_right 19 (by omega)) ns (by omega)
end K59
set_option Elab.async false
set_option linter.all false
set_option maxRecDepth 100000
set_option maxHeartbeats 4000000
namespace K59
open PySem PySem.Spec PyProof.Rows L2 G
theorem law_ok (ns : List Int) (hl : ns.length ≤ 63) (hb : ∀ z ∈ ns, Builtin.Int.intBits z ≤ 1048576) : ∃ c, callF 20 58 [.scr (ns.map D.int)] [] = some (.ok (.bl true) c) := by
  exact law_holds ns hl
theorem endG {w : World} {K : PySem.W.Frag} {h : Heap} {mg : Str → Option Value} {f : Addr} (X : K.In h) (G : h.Ns mainGlobals mg) (hf : mg ("law" : Str) = some (.ref f)) (c : He.SaysX fa fnD [] tf ex w h K) : EndG Pg w K 20 63 "script" mg f h := by
  have e := hf.symm.trans (He.glo_ok X G (c.t.d.fact 58 (f := .glo "law") rfl))
  cases e
  obtain ⟨fd, F⟩ := c.t.d.def_ 58 rfl
  have b := FunD.bindsA (ps := ["script"]) F fun _ _ _ _ _ _ us hl => match us, hl with | [_], _ => rfl
  refine ⟨fd, tbl K, Sg K, callF 20 58, nm, fun p hp => ?_, fun p hp => ?_, fun p hp => ?_, fun s v => b s [v] rfl, rfl, rfl, fun base X1 G1 T1 => ?_, fun ns hl hb => law_ok ns hl hb⟩
  · obtain ⟨q, hq, rfl⟩ := List.mem_map.mp (show p ∈ tf.map (He.cT K) from hp)
    exact c.empty q hq
  · obtain ⟨q, hq, rfl⟩ := List.mem_map.mp (show p ∈ tf.map (He.cT K) from hp)
    exact c.out q hq
  · obtain ⟨q, hq, rfl⟩ := List.mem_map.mp (show p ∈ tf.map (He.cT K) from hp)
    exact PySem.W.codeHd_of_K X (c.hd q hq)
  · have t : Told w K mg base h := ⟨c, X1, G1, T1⟩
    obtain ⟨fd2, ⟨oc2, od2, sl2, e2⟩, kb, hb2, hr⟩ := ((lev t 20).fn 58 "law" ["script"] rfl).ok
    obtain ⟨oc, od, dV, kV, doc, pm, an, cdv, ct, osl, e3, lk, _⟩ := F.ex
    have lk2 : K.lookup (He.ga K "law") = some ⟨oc, od, .func fd, osl⟩ := lk
    have e4 : K.lookup (He.ga K "law") = some ⟨oc2, od2, .func fd2, sl2⟩ := e2
    rw [lk2] at e4
    cases e4
    exact hr
end K59
open PySem PySem.W PySem.Calls PyProof.Rows
theorem PySem.Challenge.cw_leafswings_k59_whole_frames_holds : PySem.Challenge.rw_leafswings_k59_whole_frames.Holds := by
  w_on; o_law
  refine HandSHeadRun.head_imp (r := OpenLaw.row PySem.Challenge.rw_leafswings_k59_whole_frames) (q := view (OpenLaw.row PySem.Challenge.rw_leafswings_k59_whole_frames).prog [0, 94]) (H := K59.hkX) (ob := K59.ob) (M := 20000) (loose := K59.loose) (d := HandSHeadRun.topDef (OpenLaw.row PySem.Challenge.rw_leafswings_k59_whole_frames).prog 94) (kwd := []) K59.ob_eq K59.run (by kernel_rfl) (by kernel_rfl) (by kernel_rfl) (by rfl) (by first | assumption | decide +kernel) (by decide +kernel) ⟨rfl, rfl, rfl, rfl, rfl, by decide +kernel⟩ ?hw ?hc
  case hw => w_witness2
  case hc =>
    refine G.walk_G (l := PySem.Challenge.rw_leafswings_k59_whole_frames) (n := 63) (k := 20) (x := "script") rfl (by decide) (by kernel_rfl) ⟨rfl, by decide, by decide⟩ ?F
    intro w mg fa h Y GG hmg0
    obtain ⟨K, KX, c⟩ := Y
    have hmg : mg ("law" : PySem.Str) = some (.ref fa) := by
      have e : (HandSHeadRun.topDef (OpenLaw.row PySem.Challenge.rw_leafswings_k59_whole_frames).prog 94).name = ("law" : PySem.Str) := by kernel_rfl
      rw [← e]
      exact hmg0
    exact ⟨K, KX, K59.endG KX GG hmg c⟩
