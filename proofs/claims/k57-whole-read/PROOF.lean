import PyProof.Rows.All
import Wide.All
import OpenK.AllK
import Wide.FinOn
import HandS.ForMost
import HandS.Defaults
import PySem.Challenge.RW_keeper_k57_whole_read_of_shown
import KE.KStateDown
import Lean
import HandS.Head0
import HandS.Head1
import HandS.Head2
import HandS.HeadEnd
import HandS.HeadHook1
import HandS.HeadHook2
import HandS.Text
import HandS.Zip
import HandS.Deep
import HandS.Conv
import HandS.SortInts
import HandS.IsInst
import HandS.Walk
import KE.DatumOrd
import PyProof.MaxThree
import HandS.SortKw
import PyProof.P3Eq
set_option Elab.async false
set_option linter.all false
set_option maxRecDepth 100000
set_option maxHeartbeats 4000000
/-! KpText: the text by places. -/
namespace KP
open PySem L2
def top (i : Nat) : Stmt := PySem.Challenge.pw_keeper_k57_whole_read_of_shown.main.body.getD i (.Pass ⟨0, 0, 0, 0⟩)
abbrev s_shape_of : Stmt := top 10
abbrev s_is_kind_word : Stmt := top 11
abbrev s_is_number : Stmt := top 12
abbrev s_is_name : Stmt := top 13
abbrev s_knots_if : Stmt := top 14
abbrev s_is_term : Stmt := top 15
abbrev s_kids_of : Stmt := top 16
abbrev s_binds_of : Stmt := top 17
abbrev s_noted : Stmt := top 19
abbrev s_free_in : Stmt := top 20
abbrev s_words_of : Stmt := top 22
abbrev s_is_free_word : Stmt := top 23
abbrev s_parts_of : Stmt := top 24
abbrev s_is_kind_form : Stmt := top 25
abbrev s_names_one : Stmt := top 26
abbrev s_bound_part : Stmt := top 27
abbrev s_number_of : Stmt := top 28
abbrev s_word_by : Stmt := top 31
abbrev s_told_names : Stmt := top 32
abbrev s_unlike_word : Stmt := top 33
abbrev s_figures_of : Stmt := top 34
abbrev s_shown_kids : Stmt := top 35
abbrev s_shown_in : Stmt := top 36
abbrev s_shown : Stmt := top 37
abbrev s_great_part : Stmt := top 44
abbrev s_part_of : Stmt := top 45
abbrev s_figures_part : Stmt := top 46
abbrev s_variable_part : Stmt := top 47
abbrev s_binds_now : Stmt := top 48
abbrev s_named_part : Stmt := top 49
abbrev s_leaf_part : Stmt := top 50
abbrev s_is_open : Stmt := top 51
abbrev s_headed : Stmt := top 52
abbrev s_placed_part : Stmt := top 53
abbrev s_closed : Stmt := top 54
abbrev s_read_part : Stmt := top 55
abbrev s_read_as : Stmt := top 56
abbrev s_read_term : Stmt := top 57
abbrev s_read_kind : Stmt := top 58
abbrev s_law_cell_at : Stmt := top 60
abbrev s_law_shape : Stmt := top 61
abbrev s_law_leaf : Stmt := top 62
abbrev s_law_bound : Stmt := top 63
abbrev s_law_thing : Stmt := top 64
abbrev s_law_greatest : Stmt := top 65
abbrev s_law_knots : Stmt := top 66
abbrev s_law_deep : Stmt := top 67
abbrev s_law_read : Stmt := top 68
abbrev s_law_more : Stmt := top 69
abbrev s_law_kept : Stmt := top 70
abbrev s_law_names : Stmt := top 71
abbrev s_law : Stmt := top 72
abbrev s_Form : Stmt := inClass (top 42) 0
abbrev s_Part : Stmt := inClass (top 43) 0
end KP
set_option Elab.async false
set_option linter.all false
set_option maxRecDepth 100000
set_option maxHeartbeats 0
/-! KpHead: what the top leaves. -/
namespace KP
open PySem PySem.Spec PyProof.Rows L2
def dOf (x : Str) (st : Stmt) : He.DefD := ⟨(x, none), x, x, defArgs st, defBody st, defScope st, [], []⟩
def dIn (c x q : Str) (st : Stmt) : He.DefD := ⟨(c, some x), x, q, defArgs st, defBody st, defScope st, [], []⟩
def fn0 : List He.DefD := [dOf "shape_of" s_shape_of, dOf "is_kind_word" s_is_kind_word, dOf "is_name" s_is_name, dOf "knots_if" s_knots_if, dOf "is_term" s_is_term, dOf "kids_of" s_kids_of, dOf "binds_of" s_binds_of, dOf "noted" s_noted, dOf "free_in" s_free_in, dOf "words_of" s_words_of, dOf "is_free_word" s_is_free_word, dOf "parts_of" s_parts_of, dOf "is_kind_form" s_is_kind_form, dOf "names_one" s_names_one, dOf "bound_part" s_bound_part, dOf "number_of" s_number_of, dOf "word_by" s_word_by, dOf "told_names" s_told_names, dOf "unlike_word" s_unlike_word, dOf "figures_of" s_figures_of, dOf "shown_kids" s_shown_kids, dOf "shown_in" s_shown_in, dOf "shown" s_shown, dOf "part_of" s_part_of, dOf "figures_part" s_figures_part, dOf "variable_part" s_variable_part, dOf "binds_now" s_binds_now, dOf "named_part" s_named_part, dOf "leaf_part" s_leaf_part, dOf "is_open" s_is_open]
def fn1 : List He.DefD := [dOf "headed" s_headed, dOf "placed_part" s_placed_part, dOf "closed" s_closed, dOf "read_part" s_read_part, dOf "read_as" s_read_as, dOf "read_term" s_read_term, dOf "read_kind" s_read_kind, dOf "_law_cell_at" s_law_cell_at, dOf "_law_shape" s_law_shape, dOf "_law_leaf" s_law_leaf, dOf "_law_bound" s_law_bound, dOf "_law_thing" s_law_thing, dOf "_law_greatest" s_law_greatest, dOf "_law_knots" s_law_knots, dOf "_law_deep" s_law_deep, dOf "_law_read" s_law_read, dOf "_law_more" s_law_more, dOf "_law_kept" s_law_kept, dOf "_law_names" s_law_names, dOf "law" s_law, dIn "Form" "__init__" "Form.__init__" s_Form, dIn "Part" "__init__" "Part.__init__" s_Part]
def fn : List He.DefD := fn0 ++ fn1
def fa0 : List He.Fa := [.glo "shape_of", .glo "is_kind_word", .glo "is_name", .glo "knots_if", .glo "is_term", .glo "kids_of", .glo "binds_of", .glo "noted", .glo "free_in", .glo "words_of", .glo "is_free_word", .glo "parts_of", .glo "is_kind_form", .glo "names_one", .glo "bound_part", .glo "number_of", .glo "word_by", .glo "told_names", .glo "unlike_word", .glo "figures_of", .glo "shown_kids", .glo "shown_in", .glo "shown", .glo "part_of", .glo "figures_part", .glo "variable_part", .glo "binds_now", .glo "named_part", .glo "leaf_part", .glo "is_open"]
def fa1 : List He.Fa := [.glo "headed", .glo "placed_part", .glo "closed", .glo "read_part", .glo "read_as", .glo "read_term", .glo "read_kind", .glo "_law_cell_at", .glo "_law_shape", .glo "_law_leaf", .glo "_law_bound", .glo "_law_thing", .glo "_law_greatest", .glo "_law_knots", .glo "_law_deep", .glo "_law_read", .glo "_law_more", .glo "_law_kept", .glo "_law_names", .glo "law", .glo "Form", .glo "Part", .cls "Form", .cls "Part", .mkr "Form", .mkr "Part", .noat "Form" "word", .noat "Form" "binder", .noat "Form" "parts", .noat "Part" "thing"]
def fa2 : List He.Fa := [.noat "Part" "word", .noat "Part" "knots", .noat "Part" "levels", .int "MOST_KNOTS_things" 600, .int "DEEPEST_things" 40, .int "GREATEST_things" 99, .str "LETTERS_things" "abcdefghijklmnopqrstuvwxyz", .str "LETTERS_showing" "abcdefghijklmnopqrstuvwxyz", .int "MOST_KNOTS_reading" 600, .int "DEEPEST_reading" 40, .int "GREATEST_reading" 99, .free "len", .free "isinstance", .free "int", .free "str", .free "tuple", .free "bool", .free "range", .free "all", .free "list", .free "zip", .free "sorted", .free "max", .free "min", .free "sum", .free "reversed"]
def fa : List He.Fa := fa0 ++ fa1 ++ fa2
def loose0 : List Str := ["KeeperError", "Great", "NoVariable", "NoText", "MOST_KNOTS_things", "DEEPEST_things", "GREATEST_things", "LETTERS_things", "shape_of", "is_kind_word", "is_number", "is_name", "knots_if", "is_term", "kids_of", "binds_of", "noted", "free_in", "words_of", "is_free_word", "parts_of", "is_kind_form", "names_one", "bound_part", "number_of", "LETTERS_showing", "word_by", "told_names", "unlike_word", "figures_of"]
def loose1 : List Str := ["shown_kids", "shown_in", "shown", "MOST_KNOTS_reading", "DEEPEST_reading", "GREATEST_reading", "Form", "Part", "great_part", "part_of", "figures_part", "variable_part", "binds_now", "named_part", "leaf_part", "is_open", "headed", "placed_part", "closed", "read_part", "read_as", "read_term", "read_kind", "_law_cell_at", "_law_shape", "_law_leaf", "_law_bound", "_law_thing", "_law_greatest", "_law_knots"]
def loose2 : List Str := ["_law_deep", "_law_read", "_law_more", "_law_kept", "_law_names"]
def loose : List Str := loose0 ++ loose1 ++ loose2
abbrev R : PySem.W.OpenRow := PySem.W.OpenLaw.row PySem.Challenge.rw_keeper_k57_whole_read_of_shown
abbrev hk : PySem.W.Hook := He.hookD 5 fa fn
def ob (s : PySem.W.SharedT) : He.AlD := He.obsDG 5 fa fn (HandSHeadRun.getT s)
theorem ob_eq (s : PySem.W.SharedT) : ob s = hk.obs s.abs := He.obsDG_eq (HandSHeadRun.getT_eq s)
theorem run (w : World) : HandSHeadRun.RunEq R (PySem.W.view R.prog [72]) hk ob 4000 loose w := by
  intro os
  kernel_rfl
end KP
set_option Elab.async false
set_option linter.all false
set_option maxRecDepth 100000
set_option maxHeartbeats 4000000
/-! KpMath: things, what is shown, what is read: plain Lean, no program. -/
namespace KP
open PySem TL

/-! ### words -/
def kwdLeaf : List Str := ["nat", "none", "zero"]
def kwdKK : List Str := ["all", "some"]
def kwdKT : List Str := ["fun", "like", "never"]
def kwdKTT : List Str := ["same", "carry", "pair"]
def kwdT : List Str := ["next", "first", "second"]
def kwdKind : List Str := ["nat", "none", "all", "some", "same"]
def kwdBind : List Str := ["all", "some", "fun", "rec", "carry"]
def kwdB0 : List Str := ["rec", "carry"]
/-- shape_of -/
def shapeS (w : Str) : Option Str :=
  if w ∈ kwdLeaf then some ""
  else if w ∈ kwdKK then some "kk"
  else if w ∈ kwdKT then some "kt"
  else if w ∈ kwdKTT then some "ktt"
  else if w ∈ kwdT then some "t"
  else if w = "app" then some "tt"
  else if w = "rec" then some "kttt"
  else if w = "var" then some "n"
  else if w = "name" then some "w"
  else none
/-- parts_of -/
def partsS (w : Str) : Str :=
  if w ∈ kwdKK then "kk"
  else if w ∈ kwdKT then "kt"
  else if w ∈ kwdKTT then "ktt"
  else if w ∈ kwdT then "t"
  else if w = "app" then "tt"
  else if w = "rec" then "kttt"
  else ""
def kindS (w : Str) : Bool := decide (w ∈ kwdKind)
def bindS (w : Str) : Bool := decide (w ∈ kwdBind)
def bpS (w : Str) : Nat := if w ∈ kwdB0 then 0 else 1
def letters : Str := "abcdefghijklmnopqrstuvwxyz"
def nameS (w : Str) : Bool := decide (1 ≤ w.length) && (decide (w.length ≤ 12) && ((tl w).all (fun c => decide (c ∈ tl letters)) && (shapeS w).isNone))

/-! ### things -/
inductive T where
  | v (k : Nat)
  | nm (w : Str)
  | nd (w : Str) (ks : List T)

mutual
def knots : T → Nat
  | .v _ => 1
  | .nm _ => 1
  | .nd _ ks => 1 + knotsL ks
def knotsL : List T → Nat
  | [] => 0
  | k :: ks => knots k + knotsL ks
end
mutual
def depth : T → Nat
  | .v _ => 1
  | .nm _ => 1
  | .nd _ ks => 1 + depthL ks
def depthL : List T → Nat
  | [] => 0
  | k :: ks => max (depth k) (depthL ks)
end
mutual
def pd : T → PyData
  | .v k => .tuple [.str "var", .int k]
  | .nm w => .tuple [.str "name", .str w]
  | .nd w ks => .tuple (.str w :: pdL ks)
def pdL : List T → List PyData
  | [] => []
  | k :: ks => pd k :: pdL ks
end
def shapeL (w : Str) : Option (List Bool) :=
  if w ∈ kwdLeaf then some []
  else if w ∈ kwdKK then some [true, true]
  else if w ∈ kwdKT then some [true, false]
  else if w ∈ kwdKTT then some [true, false, false]
  else if w ∈ kwdT then some [false]
  else if w = "app" then some [false, false]
  else if w = "rec" then some [true, false, false, false]
  else none
mutual
/-- well formed: a kind (true), a term (false) -/
def wf : Bool → T → Prop
  | b, .v _ => b = false
  | b, .nm w => b = false ∧ nameS w = true
  | b, .nd w ks => kindS w = b ∧ ∃ l, shapeL w = some l ∧ wfL l ks
def wfL : List Bool → List T → Prop
  | [], [] => True
  | b :: bs, k :: ks => wf b k ∧ wfL bs ks
  | [], _ :: _ => False
  | _ :: _, [] => False
end
/-- the child over which the binder stands; 9 for none -/
def bpN (w : Str) : Nat := if bindS w then bpS w else 9
mutual
/-- every variable's number, from without, is below n -/
def below : T → Nat → Prop
  | .v k, n => k < n
  | .nm _, _ => True
  | .nd w ks, n => belowL ks 0 (bpN w) n
def belowL : List T → Nat → Nat → Nat → Prop
  | [], _, _, _ => True
  | k :: ks, i, bp, n => below k (if i = bp then n + 1 else n) ∧ belowL ks (i + 1) bp n
end
mutual
/-- every variable's own number is at most 99 -/
def small : T → Prop
  | .v k => k ≤ 99
  | .nm _ => True
  | .nd _ ks => smallL ks
def smallL : List T → Prop
  | [] => True
  | k :: ks => small k ∧ smallL ks
end
def addS (w : Str) (found : List Str) : List Str := if w ∈ found then found else found ++ [w]
mutual
/-- told_names -/
def told : T → List Str → List Str
  | .v _, f => f
  | .nm w, f => addS w f
  | .nd _ ks, f => toldL ks f
def toldL : List T → List Str → List Str
  | [], f => f
  | k :: ks, f => toldL ks (told k f)
end
mutual
/-- _law_kept -/
def keptN : T → List Str
  | .v _ => []
  | .nm w => [w]
  | .nd _ ks => keptL ks
def keptL : List T → List Str
  | [] => []
  | k :: ks => keptN k ++ keptL ks
end
mutual
/-- how many next over zero -/
def figN : T → Option Nat
  | .v _ => none
  | .nm _ => none
  | .nd w ks => if w = "zero" then some 0 else if w = "next" then (figL ks).map (· + 1) else none
def figL : List T → Option Nat
  | [] => none
  | k :: _ => figN k
end
def figT : Nat → T
  | 0 => .nd "zero" []
  | n + 1 => .nd "next" [figT n]
def numT (n : Nat) : Str := Str.ofString (toString ((n : Nat) : Int))

/-! ### words of numbers -/
def chOf (n : Nat) : Str := ⟨#[(tl letters).getD n 0]⟩
/-- word_by's loop -/
def wordGo : Nat → Nat → Str → Str
  | 0, _, w => w
  | f + 1, n, w => if n = 0 then w else wordGo f ((n - 1) / 26) (chOf ((n - 1) % 26) ++ w)
def wordBy (n : Nat) : Str := wordGo (n + 1) (n + 1) ""
/-- unlike_word -/
def unlN (taken : List Str) : Nat := ((List.range 130).find? fun n => decide (wordBy n ∉ taken)).getD 0
def unl (taken : List Str) : Str := wordBy (unlN taken)

/-! ### what is shown -/
def spJoin : List Str → Str := Str.join " "
def brk (l : List Str) : Str := "(" ++ spJoin l ++ ")"
mutual
def sh (kept : List Str) : T → List Str → Str
  | .v k, sc => sc.getD k ""
  | .nm w, _ => w
  | .nd w ks, sc => match figN (.nd w ks) with
    | some n => numT n
    | none => if w = "nat" ∨ w = "none" then w
      else brk (w :: ((if bindS w then [unl (sc ++ kept)] else []) ++ shL kept ks 0 (bpN w) sc (unl (sc ++ kept))))
def shL (kept : List Str) : List T → Nat → Nat → List Str → Str → List Str
  | [], _, _, _, _ => []
  | k :: ks, i, bp, sc, b => sh kept k (if i = bp then b :: sc else sc) :: shL kept ks (i + 1) bp sc b
end
mutual
def toks (kept : List Str) : T → List Str → List Str
  | .v k, sc => [sc.getD k ""]
  | .nm w, _ => [w]
  | .nd w ks, sc => match figN (.nd w ks) with
    | some n => [numT n]
    | none => if w = "nat" ∨ w = "none" then [w]
      else ("(" : Str) :: w :: (((if bindS w then [unl (sc ++ kept)] else []) ++ toksL kept ks 0 (bpN w) sc (unl (sc ++ kept))) ++ [(")" : Str)])
def toksL (kept : List Str) : List T → Nat → Nat → List Str → Str → List Str
  | [], _, _, _, _ => []
  | k :: ks, i, bp, sc, b => toks kept k (if i = bp then b :: sc else sc) ++ toksL kept ks (i + 1) bp sc b
end

/-! ### words of a text -/
def isSp (c : Nat) : Bool := decide (c ∈ tl ("() \n" : Str))
def isBr (c : Nat) : Bool := decide (c ∈ tl ("()" : Str))
def flush (f : List Str) (r : Str) : List Str := if r = "" then f else f ++ [r]
def scan1 (st : List Str × Str) (c : Nat) : List Str × Str :=
  if isSp c then (if isBr c then flush st.1 st.2 ++ [⟨#[c]⟩] else flush st.1 st.2, "") else (st.1, st.2 ++ ⟨#[c]⟩)
def wordsS (z : Str) : List Str := (((tl z) ++ [32]).foldl scan1 ([], "")).1

/-! ### the reader's machine -/
structure PM where
  t : T
  w : Str
  kn : Nat
  lv : Nat
structure FM where
  w : Str
  b : Str
  ps : List PM
def isOpenM (f : FM) : Bool := !(decide (f.w = "") || (bindS f.w && decide (f.b = ""))) && decide (f.ps.length < (partsS f.w).length)
def bindsM (f : FM) : Bool := bindS f.w && decide (bpS f.w = f.ps.length)
def varM (n : Nat) : Option PM := if n ≤ 99 then some ⟨.v n, "var", 1, 1⟩ else none
def namedGo (w : Str) (names : List Str) : List FM → Nat → Option PM
  | [], o => if w ∈ names then varM (o + names.idxOf w) else some ⟨.nm w, "name", 1, 1⟩
  | f :: fs, o => if bindsM f then (if f.b = w then varM o else namedGo w names fs (o + 1)) else namedGo w names fs o
def leafM (w : Str) (fs : List FM) (names : List Str) : Option PM :=
  if w = "nat" ∨ w = "none" then some ⟨.nd w [], w, 1, 1⟩
  else if nameS w then namedGo w names fs 0
  else match (List.range 40).find? (fun n => decide (numT n = w)) with
    | some n => some ⟨figT n, "zero", n + 1, n + 1⟩
    | none => none
def headedM (f : FM) (w : Str) : Option FM :=
  if f.w = "" then (if partsS w = "" then none else some ⟨w, f.b, f.ps⟩)
  else if bindS f.w && (decide (f.b = "") && nameS w) then some ⟨f.w, w, f.ps⟩
  else none
def wantS (fs : List FM) (want : Str) : Option Nat := match fs with
  | [] => (tl want)[0]?
  | f :: _ => (tl (partsS f.w))[f.ps.length]?
def placedM (fs : List FM) (p : PM) (want : Str) : Option (List FM × Option PM) :=
  match wantS fs want with
  | none => none
  | some c => if kindS p.w = decide (c = 107) then (match fs with
    | [] => some ([], some p)
    | f :: fs => some (⟨f.w, f.b, f.ps ++ [p]⟩ :: fs, none)) else none
def sumK (ps : List PM) : Nat := (ps.map (·.kn)).sum
def maxL (ps : List PM) : Nat := (ps.map (·.lv)).foldr max 0
def closedM (fs : List FM) : Option (PM × List FM) := match fs with
  | [] => none
  | f :: fs => if f.w ≠ "" ∧ (partsS f.w).length ≤ f.ps.length ∧ f.ps ≠ [] ∧ 1 + sumK f.ps ≤ 600 ∧ 1 + maxL f.ps ≤ 40
    then some (⟨.nd f.w (f.ps.map (·.t)), f.w, 1 + sumK f.ps, 1 + maxL f.ps⟩, fs) else none
def topOpen (fs : List FM) : Bool := match fs with
  | [] => true
  | f :: _ => isOpenM f
def stepM (names : List Str) (want : Str) (st : List FM × Option PM) (w : Str) : Option (List FM × Option PM) :=
  match st.2 with
  | some _ => none
  | none =>
    if w = "(" then (if topOpen st.1 then some (⟨"", "", []⟩ :: st.1, none) else none)
    else if w = ")" then (match closedM st.1 with
      | some (p, fs) => placedM fs p want
      | none => none)
    else match st.1 with
      | f :: fs => if isOpenM f then (match leafM w st.1 names with
          | some p => placedM st.1 p want
          | none => none)
        else (match headedM f w with
          | some f' => some (f' :: fs, none)
          | none => none)
      | [] => (match leafM w [] names with
          | some p => placedM [] p want
          | none => none)
def runM (names : List Str) (want : Str) : List Str → List FM × Option PM → Option (List FM × Option PM)
  | [], st => some st
  | w :: ws, st => (stepM names want st w).bind (runM names want ws)
theorem runM_app (names : List Str) (want : Str) : ∀ (a b : List Str) (st : List FM × Option PM), runM names want (a ++ b) st = (runM names want a st).bind (runM names want b)
  | [], b, st => rfl
  | w :: a, b, st => by
    show (stepM names want st w).bind (runM names want (a ++ b)) = ((stepM names want st w).bind (runM names want a)).bind (runM names want b)
    cases stepM names want st w with
    | none => rfl
    | some st' => exact runM_app names want a b st'
end KP
set_option Elab.async false
set_option linter.all false
set_option maxRecDepth 100000
set_option maxHeartbeats 4000000
/-! KpMath2: what is shown is read: plain Lean. -/
namespace KP
open PySem TL

def all16 : List Str := ["nat", "none", "zero", "all", "some", "fun", "like", "never", "same", "carry", "pair", "next", "first", "second", "app", "rec"]
def six : List Str := ["b", "c", "plus", "lookalikeone", "lookalikezne", "aa"]

theorem shapeL_mem {w : Str} {l : List Bool} (h : shapeL w = some l) : w ∈ all16 := by
  unfold shapeL at h
  simp only [kwdLeaf, kwdKK, kwdKT, kwdKTT, kwdT, List.mem_cons, List.not_mem_nil, or_false] at h
  simp only [all16, List.mem_cons, List.not_mem_nil, or_false]
  by_cases h1 : w = "nat" ∨ w = "none" ∨ w = "zero"
  · rcases h1 with h1 | h1 | h1 <;> simp [h1]
  · rw [if_neg h1] at h
    by_cases h2 : w = "all" ∨ w = "some"
    · rcases h2 with h1 | h1 <;> simp [h1]
    · rw [if_neg h2] at h
      by_cases h3 : w = "fun" ∨ w = "like" ∨ w = "never"
      · rcases h3 with h1 | h1 | h1 <;> simp [h1]
      · rw [if_neg h3] at h
        by_cases h4 : w = "same" ∨ w = "carry" ∨ w = "pair"
        · rcases h4 with h1 | h1 | h1 <;> simp [h1]
        · rw [if_neg h4] at h
          by_cases h5 : w = "next" ∨ w = "first" ∨ w = "second"
          · rcases h5 with h1 | h1 | h1 <;> simp [h1]
          · rw [if_neg h5] at h
            by_cases h6 : w = "app"
            · simp [h6]
            · rw [if_neg h6] at h
              by_cases h7 : w = "rec"
              · simp [h7]
              · rw [if_neg h7] at h
                cases h

def plainB (w : Str) : Bool := decide (w ≠ "") && (tl w).all fun c => !isSp c
/-- what a form's word is -/
def formB (w : Str) : Bool :=
  decide (w ≠ "var") && (decide (w ≠ "name") && (!nameS w && (plainB w && (decide (w ≠ "(") && (decide (w ≠ ")") && (decide (w ≠ "") && (decide (w.length ≤ 6) &&
    (decide (w ∈ kwdLeaf ∨ (partsS w ≠ "" ∧ tl (partsS w) = ((shapeL w).getD []).map fun b => if b then 107 else 116)) && decide ((shapeL w).isSome = true)))))))))
theorem all16_form : ∀ w ∈ all16, formB w = true := by decide +kernel
theorem all16_len : ∀ w ∈ all16, decide (((shapeL w).getD []).length ≤ 4) = true := by decide +kernel
structure Form (w : Str) : Prop where
  nv : w ≠ "var"
  nn : w ≠ "name"
  nf : nameS w = false
  pl : plainB w = true
  n1 : w ≠ "("
  n2 : w ≠ ")"
  n0 : w ≠ ""
  len : w.length ≤ 6
  parts : w ∈ kwdLeaf ∨ (partsS w ≠ "" ∧ tl (partsS w) = ((shapeL w).getD []).map fun b => if b then 107 else 116)
theorem form_of {w : Str} {l : List Bool} (h : shapeL w = some l) : Form w := by
  have q := all16_form w (shapeL_mem h)
  unfold formB at q
  simp only [Bool.and_eq_true, decide_eq_true_eq, Bool.not_eq_true'] at q
  obtain ⟨a, b, c, d, e, f, g, i, j, k⟩ := q
  exact ⟨a, b, c, d, e, f, g, i, j⟩

/-! ### pigeons -/
theorem nodup_le {α : Type} [DecidableEq α] : ∀ {l m : List α}, l.Nodup → (∀ x ∈ l, x ∈ m) → l.length ≤ m.length
  | [], m, _, _ => Nat.zero_le _
  | x :: l, m, hn, hs => by
    have hx : x ∈ m := hs x List.mem_cons_self
    have hn' := List.nodup_cons.mp hn
    have ih : l.length ≤ (m.erase x).length := nodup_le hn'.2 fun y hy => by
      have hy2 : y ∈ m := hs y (List.mem_cons_of_mem _ hy)
      have ne : y ≠ x := fun e => hn'.1 (e ▸ hy)
      exact (List.mem_erase_of_ne ne).mpr hy2
    rw [List.length_erase_of_mem hx] at ih
    have : 0 < m.length := List.length_pos_of_mem hx
    rw [List.length_cons]
    omega
theorem words_nodup : ((List.range 130).map wordBy).Nodup := by decide +kernel
def goodWord (w : Str) : Bool := nameS w && decide (w.length ≤ 2)
theorem words_good : ∀ n ∈ List.range 130, goodWord (wordBy n) = true := by decide +kernel
theorem unl_there {sc kept : List Str} (h : sc.length ≤ 100) (hk : ∀ w ∈ kept, w ∈ six) : ∃ n, n < 130 ∧ wordBy n ∉ sc ++ kept := by
  apply Classical.byContradiction
  intro hno
  have all : ∀ n, n < 130 → wordBy n ∈ sc ++ kept := fun n hn => Classical.byContradiction fun q => hno ⟨n, hn, q⟩
  have le := nodup_le (m := sc ++ six) words_nodup fun x hx => by
    obtain ⟨n, hn, rfl⟩ := List.mem_map.mp hx
    rcases List.mem_append.mp (all n (List.mem_range.mp hn)) with q | q
    · exact List.mem_append_left _ q
    · exact List.mem_append_right _ (hk _ q)
  rw [List.length_map, List.length_range, List.length_append] at le
  have e6 : six.length = 6 := by decide
  omega
structure UnlOk (taken : List Str) : Prop where
  lt : unlN taken < 130
  out : unl taken ∉ taken
  first : ∀ m, m < unlN taken → wordBy m ∈ taken
theorem unl_ok {taken : List Str} (h : ∃ n, n < 130 ∧ wordBy n ∉ taken) : UnlOk taken := by
  obtain ⟨n, hn, ho⟩ := h
  have hs : ((List.range 130).find? fun n => decide (wordBy n ∉ taken)).isSome = true := by
    rw [List.find?_isSome]
    exact ⟨n, List.mem_range.mpr hn, decide_eq_true ho⟩
  obtain ⟨m, hm⟩ := Option.isSome_iff_exists.mp hs
  have e : unlN taken = m := by unfold unlN; rw [hm]; rfl
  have h1' : decide (wordBy m ∉ taken) = true := List.find?_some (p := fun n => decide (wordBy n ∉ taken)) hm
  have h1 : wordBy m ∉ taken := of_decide_eq_true h1'
  have h2 := List.mem_range.mp (List.mem_of_find?_eq_some hm)
  refine ⟨by rw [e]; exact h2, by unfold unl; rw [e]; exact h1, fun k hk => ?_⟩
  rw [e] at hk
  rw [List.find?_range_eq_some] at hm
  have q := hm.2.2 k hk
  simpa using q
theorem unl_good {taken : List Str} (h : UnlOk taken) : nameS (unl taken) = true ∧ (unl taken).length ≤ 2 := by
  have q := words_good (unlN taken) (List.mem_range.mpr h.lt)
  unfold goodWord at q
  rw [Bool.and_eq_true] at q
  exact ⟨q.1, of_decide_eq_true q.2⟩
end KP
set_option Elab.async false
set_option linter.all false
set_option maxRecDepth 100000
set_option maxHeartbeats 4000000
/-! KpMath3: the words of what is shown. -/
namespace KP
open PySem TL

/-! ### figures -/
def numB (n : Nat) : Bool := decide (numT n ≠ "nat") && (decide (numT n ≠ "none") && (decide (numT n ≠ "zero") && (!nameS (numT n) && (plainB (numT n) && (decide (numT n ≠ "(") && (decide (numT n ≠ ")") && (decide ((numT n).length ≤ 2) &&
  decide ((List.range 40).find? (fun m => decide (numT m = numT n)) = some n))))))))
theorem num_all : ∀ n ∈ List.range 40, numB n = true := by decide +kernel
structure Num (n : Nat) : Prop where
  n1 : numT n ≠ "nat"
  n2 : numT n ≠ "none"
  n3 : numT n ≠ "zero"
  nf : nameS (numT n) = false
  pl : plainB (numT n) = true
  b1 : numT n ≠ "("
  b2 : numT n ≠ ")"
  len : (numT n).length ≤ 2
  back : (List.range 40).find? (fun m => decide (numT m = numT n)) = some n
theorem num_of {n : Nat} (h : n < 40) : Num n := by
  have q := num_all n (List.mem_range.mpr h)
  unfold numB at q
  simp only [Bool.and_eq_true, decide_eq_true_eq, Bool.not_eq_true'] at q
  obtain ⟨a, b, c, d, e, f, g, i, j⟩ := q
  exact ⟨a, b, c, d, e, f, g, i, j⟩

theorem wf_zero {b : Bool} {ks : List T} (h : wf b (.nd "zero" ks)) : b = false ∧ ks = [] := by
  unfold wf at h
  obtain ⟨h1, l, h2, h3⟩ := h
  have e : shapeL ("zero" : Str) = some [] := by decide +kernel
  rw [e] at h2
  cases h2
  have e2 : kindS ("zero" : Str) = false := by decide +kernel
  refine ⟨h1.symm.trans e2, ?_⟩
  cases ks with
  | nil => rfl
  | cons k r => simp [wfL] at h3
theorem wf_next {b : Bool} {ks : List T} (h : wf b (.nd "next" ks)) : b = false ∧ ∃ k, ks = [k] ∧ wf false k := by
  unfold wf at h
  obtain ⟨h1, l, h2, h3⟩ := h
  have e : shapeL ("next" : Str) = some [false] := by decide +kernel
  rw [e] at h2
  cases h2
  have e2 : kindS ("next" : Str) = false := by decide +kernel
  refine ⟨h1.symm.trans e2, ?_⟩
  cases ks with
  | nil => simp [wfL] at h3
  | cons k r =>
    cases r with
    | nil => simp only [wfL, and_true] at h3; exact ⟨k, rfl, h3⟩
    | cons k2 r2 => simp [wfL] at h3
theorem figN_eq : ∀ (t : T) (b : Bool) (n : Nat), wf b t → figN t = some n → t = figT n ∧ knots t = n + 1 ∧ depth t = n + 1 ∧ b = false
  | .v _, _, _, _, h => by unfold figN at h; cases h
  | .nm _, _, _, _, h => by unfold figN at h; cases h
  | .nd w ks, b, n, hw, h => by
    unfold figN at h
    by_cases h0 : w = "zero"
    · rw [if_pos h0] at h
      cases h
      subst h0
      obtain ⟨hb, rfl⟩ := wf_zero hw
      exact ⟨rfl, rfl, rfl, hb⟩
    · rw [if_neg h0] at h
      by_cases h1 : w = "next"
      · rw [if_pos h1] at h
        subst h1
        obtain ⟨hb, k, rfl, hk⟩ := wf_next hw
        unfold figL at h
        cases e : figN k with
        | none => rw [e] at h; cases h
        | some m =>
          rw [e] at h
          cases h
          obtain ⟨e1, e2, e3, _⟩ := figN_eq k false m hk e
          refine ⟨?_, ?_, ?_, hb⟩
          · show T.nd "next" [k] = T.nd "next" [figT m]
            rw [← e1]
          · simp only [knots, knotsL]; omega
          · simp only [depth, depthL]; omega
      · rw [if_neg h1] at h
        cases h
theorem figN_figT : ∀ n, figN (figT n) = some n
  | 0 => rfl
  | n + 1 => by
    show (if ("next" : Str) = "zero" then some 0 else if ("next" : Str) = "next" then (figN (figT n)).map (· + 1) else none) = some (n + 1)
    rw [if_neg (by decide +kernel), if_pos rfl, figN_figT n]
    rfl

/-! ### the words of a text -/
theorem plain_ne {w : Str} (h : plainB w = true) : w ≠ "" := by
  unfold plainB at h
  rw [Bool.and_eq_true] at h
  exact of_decide_eq_true h.1
theorem plain_sp {w : Str} (h : plainB w = true) : ∀ c ∈ tl w, isSp c = false := by
  unfold plainB at h
  rw [Bool.and_eq_true, List.all_eq_true] at h
  intro c hc
  have := h.2 c hc
  simpa using this
theorem str_app_assoc (a b c : Str) : a ++ b ++ c = a ++ (b ++ c) := ext_tl (by rw [tl_append, tl_append, tl_append, tl_append, List.append_assoc])
theorem tl_empty : tl ("" : Str) = [] := by decide +kernel
theorem str_app_nil (a : Str) : a ++ ("" : Str) = a := ext_tl (by rw [tl_append, tl_empty, List.append_nil])
theorem str_nil_app (a : Str) : ("" : Str) ++ a = a := ext_tl (by rw [tl_append, tl_empty, List.nil_append])
theorem scan_plain : ∀ (l : List Nat) (f : List Str) (r : Str), (∀ c ∈ l, isSp c = false) → l.foldl scan1 (f, r) = (f, r ++ ⟨l.toArray⟩)
  | [], f, r, _ => by
    show (f, r) = _
    rw [show (⟨([] : List Nat).toArray⟩ : Str) = "" from ext_tl (by rw [tl_empty]), str_app_nil]
  | c :: l, f, r, h => by
    have h1 : scan1 (f, r) c = (f, r ++ ⟨#[c]⟩) := by
      unfold scan1
      rw [h c List.mem_cons_self]
      rfl
    rw [List.foldl_cons, h1, scan_plain l f _ fun d hd => h d (List.mem_cons_of_mem _ hd), str_app_assoc]
    refine congrArg (fun z => (f, r ++ z)) (ext_tl ?_)
    rw [tl_append]
    rfl
def fl2 (p : List Str × Str) : List Str := flush p.1 p.2
/-- the text z has the words l -/
def Tok (z : Str) (l : List Str) : Prop := ∀ f, fl2 ((tl z).foldl scan1 (f, "")) = f ++ l
theorem tok_word {w : Str} (h : plainB w = true) : Tok w [w] := fun f => by
  rw [scan_plain _ f "" (plain_sp h), str_nil_app]
  show flush f ⟨(tl w).toArray⟩ = _
  rw [mk_tl]
  unfold flush
  rw [if_neg (plain_ne h)]
theorem sp32 : isSp 32 = true ∧ isBr 32 = false := by decide +kernel
theorem sp40 : isSp 40 = true ∧ isBr 40 = true := by decide +kernel
theorem sp41 : isSp 41 = true ∧ isBr 41 = true := by decide +kernel
theorem scan32 (p : List Str × Str) : scan1 p 32 = (fl2 p, ("" : Str)) := by
  unfold scan1
  rw [sp32.1, sp32.2]
  rfl
theorem scan41 (p : List Str × Str) : scan1 p 41 = (fl2 p ++ [(")" : Str)], ("" : Str)) := by
  unfold scan1
  rw [sp41.1, sp41.2]
  have e : (⟨#[41]⟩ : Str) = ")" := by decide +kernel
  rw [e]
  rfl
theorem scan40 (f : List Str) : scan1 (f, "") 40 = (f ++ [("(" : Str)], ("" : Str)) := by
  unfold scan1
  rw [sp40.1, sp40.2]
  have e : (⟨#[40]⟩ : Str) = "(" := by decide +kernel
  rw [e]
  show (flush f "" ++ _, ("" : Str)) = _
  unfold flush
  rw [if_pos rfl]
theorem tl_sp : tl (" " : Str) = [32] := by decide +kernel
theorem tl_op : tl ("(" : Str) = [40] := by decide +kernel
theorem tl_cl : tl (")" : Str) = [41] := by decide +kernel
theorem tok_sp {y z : Str} {l m : List Str} (h1 : Tok y l) (h2 : Tok z m) : Tok (y ++ " " ++ z) (l ++ m) := fun f => by
  rw [tl_append, tl_append, tl_sp, List.foldl_append, List.foldl_append]
  show fl2 ((tl z).foldl scan1 (scan1 ((tl y).foldl scan1 (f, "")) 32)) = _
  rw [scan32, h1 f, h2, List.append_assoc]
/-- the texts ws have, one behind another, the words l -/
inductive TokL : List Str → List Str → Prop where
  | nil : TokL [] []
  | cons {w : Str} {ws a l : List Str} : Tok w a → TokL ws l → TokL (w :: ws) (a ++ l)
theorem tok_join : ∀ {ws l : List Str}, TokL ws l → ws ≠ [] → Tok (spJoin ws) l
  | [], _, _, h => absurd rfl h
  | [w], _, .cons (a := a) h .nil, _ => by
    rw [List.append_nil]
    exact h
  | w :: w2 :: ws, _, .cons h t, _ => tok_sp h (tok_join t (by simp))
theorem tok_brk {ws : List Str} {l : List Str} (h : Tok (spJoin ws) l) : Tok (brk ws) (("(" : Str) :: (l ++ [(")" : Str)])) := fun f => by
  unfold brk
  rw [tl_append, tl_append, tl_op, tl_cl, List.foldl_append, List.foldl_append]
  show fl2 (scan1 ((tl (spJoin ws)).foldl scan1 (scan1 (f, "") 40)) 41) = _
  rw [scan41, scan40, h]
  show flush _ "" = _
  unfold flush
  rw [if_pos rfl]
  simp
theorem words_tok {z : Str} {l : List Str} (h : Tok z l) : wordsS z = l := by
  unfold wordsS
  rw [List.foldl_append]
  show (scan1 ((tl z).foldl scan1 ([], "")) 32).1 = l
  rw [scan32]
  show fl2 _ = l
  rw [h []]
  rfl

/-! ### names -/
theorem letters_plain : ∀ c ∈ tl letters, isSp c = false := by decide +kernel
theorem name_plain {w : Str} (h : nameS w = true) : plainB w = true := by
  unfold nameS at h
  simp only [Bool.and_eq_true, decide_eq_true_eq, List.all_eq_true] at h
  obtain ⟨h1, h2, h3, _⟩ := h
  unfold plainB
  rw [Bool.and_eq_true, List.all_eq_true]
  refine ⟨decide_eq_true fun e => ?_, fun c hc => ?_⟩
  · subst e
    have : ¬ 1 ≤ ("" : Str).length := by decide +kernel
    exact this h1
  · rw [letters_plain c (h3 c hc)]
    rfl
theorem name_len {w : Str} (h : nameS w = true) : 1 ≤ w.length ∧ w.length ≤ 12 := by
  unfold nameS at h
  simp only [Bool.and_eq_true, decide_eq_true_eq] at h
  exact ⟨h.1, h.2.1⟩
theorem name_ne {w z : Str} (h : nameS w = true) (hz : nameS z = false) : w ≠ z := fun e => by
  rw [e, hz] at h
  cases h
theorem bracket_no : nameS ("(" : Str) = false ∧ nameS (")" : Str) = false ∧ nameS ("" : Str) = false ∧ nameS ("nat" : Str) = false ∧ nameS ("none" : Str) = false := by decide +kernel

/-- the names that stand over a place -/
structure Sc (sc kept : List Str) (n : Nat) : Prop where
  nd : sc.Nodup
  nm : ∀ w ∈ sc, nameS w = true
  ap : ∀ w ∈ sc, w ∉ kept
  six : ∀ w ∈ kept, w ∈ six
  len : sc.length + n ≤ 100
theorem Sc.unl {sc kept : List Str} {n : Nat} (h : Sc sc kept n) : UnlOk (sc ++ kept) := unl_ok (unl_there (by have := h.len; omega) h.six)
theorem Sc.mono {sc kept : List Str} {n m : Nat} (h : Sc sc kept n) (hm : m ≤ n) : Sc sc kept m := ⟨h.nd, h.nm, h.ap, h.six, by have := h.len; omega⟩
theorem Sc.push {sc kept : List Str} {n : Nat} (h : Sc sc kept (n + 1)) : Sc (KP.unl (sc ++ kept) :: sc) kept n := by
  have u := h.unl
  have g := unl_good u
  have o := u.out
  rw [List.mem_append, not_or] at o
  refine ⟨List.nodup_cons.mpr ⟨o.1, h.nd⟩, fun w hw => ?_, fun w hw => ?_, h.six, ?_⟩
  · rcases List.mem_cons.mp hw with rfl | hw
    · exact g.1
    · exact h.nm w hw
  · rcases List.mem_cons.mp hw with rfl | hw
    · exact o.2
    · exact h.ap w hw
  · have := h.len
    rw [List.length_cons]
    omega
theorem Sc.child {sc kept : List Str} {n : Nat} (h : Sc sc kept (n + 1)) (c : Prop) [Decidable c] : Sc (if c then KP.unl (sc ++ kept) :: sc else sc) kept n := by
  by_cases q : c
  · rw [if_pos q]; exact h.push
  · rw [if_neg q]; exact h.mono (Nat.le_succ n)

theorem getD_mem {sc : List Str} {k : Nat} (h : k < sc.length) : sc.getD k "" ∈ sc := by
  rw [List.getD_eq_getElem?_getD, List.getElem?_eq_getElem h]
  exact List.getElem_mem h
theorem nine_ne {w : Str} (h : bindS w = true) : bpN w = 0 ∨ bpN w = 1 := by
  unfold bpN
  rw [if_pos h]
  unfold bpS
  by_cases q : w ∈ kwdB0
  · rw [if_pos q]; exact .inl rfl
  · rw [if_neg q]; exact .inr rfl
theorem nat_none_plain {w : Str} (h : w = "nat" ∨ w = "none") : plainB w = true := by
  rcases h with rfl | rfl <;> decide +kernel

mutual
theorem tok_t (kept : List Str) : ∀ (t : T) (b : Bool) (sc : List Str), wf b t → Sc sc kept (depth t) → below t sc.length → depth t ≤ 40 → Tok (sh kept t sc) (toks kept t sc)
  | .v k, b, sc, hw, hs, hb, hd => by
    unfold sh toks
    unfold below at hb
    exact tok_word (name_plain (hs.nm _ (getD_mem hb)))
  | .nm w, b, sc, hw, hs, hb, hd => by
    unfold sh toks
    unfold wf at hw
    exact tok_word (name_plain hw.2)
  | .nd w ks, b, sc, hw, hs, hb, hd => by
    unfold sh toks
    cases e : figN (.nd w ks) with
    | some n =>
      obtain ⟨_, _, e3, _⟩ := figN_eq _ b n hw e
      exact tok_word (num_of (by omega)).pl
    | none =>
      dsimp only
      by_cases h1 : w = "nat" ∨ w = "none"
      · rw [if_pos h1, if_pos h1]
        exact tok_word (nat_none_plain h1)
      · rw [if_neg h1, if_neg h1]
        have hw' := hw
        unfold wf at hw'
        obtain ⟨_, l, hl, hk⟩ := hw'
        have F := form_of hl
        unfold below at hb
        unfold depth at hs hd
        rw [Nat.add_comm] at hs
        have q := tok_l kept ks l 0 (bpN w) sc hk hs hb (by omega)
        have q2 : TokL ((if bindS w then [unl (sc ++ kept)] else []) ++ shL kept ks 0 (bpN w) sc (unl (sc ++ kept))) ((if bindS w then [unl (sc ++ kept)] else []) ++ toksL kept ks 0 (bpN w) sc (unl (sc ++ kept))) := by
          by_cases h2 : bindS w = true
          · rw [if_pos h2]
            exact .cons (a := [_]) (tok_word (name_plain (unl_good hs.unl).1)) q
          · rw [if_neg h2]
            exact q
        exact tok_brk (tok_join (.cons (a := [w]) (tok_word F.pl) q2) (by simp))
theorem tok_l (kept : List Str) : ∀ (ks : List T) (l : List Bool) (i bp : Nat) (sc : List Str), wfL l ks → Sc sc kept (depthL ks + 1) → belowL ks i bp sc.length → depthL ks ≤ 40 →
    TokL (shL kept ks i bp sc (unl (sc ++ kept))) (toksL kept ks i bp sc (unl (sc ++ kept)))
  | [], _, _, _, _, _, _, _, _ => .nil
  | k :: ks, l, i, bp, sc, hk, hs, hb, hd => by
    cases l with
    | nil => simp [wfL] at hk
    | cons b bs =>
      simp only [wfL] at hk
      simp only [belowL] at hb
      unfold depthL at hs hd
      refine .cons (tok_t kept k b _ hk.1 ((hs.child (i = bp)).mono (by omega)) ?_ (by omega)) (tok_l kept ks bs (i + 1) bp sc hk.2 (hs.mono (by omega)) hb.2 (by omega))
      have hb1 := hb.1
      by_cases q : i = bp
      · rw [if_pos q] at hb1 ⊢
        exact hb1
      · rw [if_neg q] at hb1 ⊢
        exact hb1
end

/-! ### how long it is -/
theorem len_app (a b : Str) : (a ++ b).length = a.length + b.length := by rw [len_tl, len_tl, len_tl, tl_append, List.length_append]
def lenL : List Str → Nat
  | [] => 0
  | w :: ws => w.length + 1 + lenL ws
theorem lenL_app : ∀ a b : List Str, lenL (a ++ b) = lenL a + lenL b
  | [], b => by show _ = 0 + _; rw [Nat.zero_add]; rfl
  | w :: a, b => by
    show w.length + 1 + lenL (a ++ b) = w.length + 1 + lenL a + lenL b
    rw [lenL_app a b]
    omega
theorem len_join : ∀ ws : List Str, (spJoin ws).length ≤ lenL ws
  | [] => Nat.zero_le _
  | [w] => by show w.length ≤ w.length + 1 + 0; omega
  | w :: w2 :: ws => by
    show (w ++ " " ++ spJoin (w2 :: ws)).length ≤ w.length + 1 + lenL (w2 :: ws)
    rw [len_app, len_app]
    have ih := len_join (w2 :: ws)
    have e : (" " : Str).length = 1 := by decide +kernel
    omega
theorem len_brk (ws : List Str) : (brk ws).length ≤ lenL ws + 2 := by
  unfold brk
  rw [len_app, len_app]
  have e : ("(" : Str).length = 1 := by decide +kernel
  have e2 : (")" : Str).length = 1 := by decide +kernel
  have := len_join ws
  omega
mutual
theorem len_t (kept : List Str) : ∀ (t : T) (b : Bool) (sc : List Str), wf b t → Sc sc kept (depth t) → below t sc.length → depth t ≤ 40 → (sh kept t sc).length + 1 ≤ 30 * knots t
  | .v k, b, sc, hw, hs, hb, hd => by
    unfold sh knots
    unfold below at hb
    have := name_len (hs.nm _ (getD_mem hb))
    omega
  | .nm w, b, sc, hw, hs, hb, hd => by
    unfold sh knots
    unfold wf at hw
    have := name_len hw.2
    omega
  | .nd w ks, b, sc, hw, hs, hb, hd => by
    unfold sh knots
    cases e : figN (.nd w ks) with
    | some n =>
      obtain ⟨_, _, e3, _⟩ := figN_eq _ b n hw e
      have := (num_of (n := n) (by omega)).len
      dsimp only
      omega
    | none =>
      dsimp only
      have hw' := hw
      unfold wf at hw'
      obtain ⟨_, l, hl, hk⟩ := hw'
      have F := form_of hl
      by_cases h1 : w = "nat" ∨ w = "none"
      · rw [if_pos h1]
        have := F.len
        omega
      · rw [if_neg h1]
        unfold below at hb
        unfold depth at hs hd
        rw [Nat.add_comm] at hs
        have q := len_l kept ks l 0 (bpN w) sc hk hs hb (by omega)
        refine Nat.le_trans (Nat.add_le_add_right (len_brk _) 1) ?_
        show (w.length + 1 + lenL _) + 2 + 1 ≤ _
        rw [lenL_app]
        have h2 : lenL (if bindS w then [unl (sc ++ kept)] else []) ≤ 3 := by
          by_cases h2 : bindS w = true
          · rw [if_pos h2]
            have := (unl_good hs.unl).2
            show (unl (sc ++ kept)).length + 1 + 0 ≤ 3
            omega
          · rw [if_neg h2]
            exact Nat.zero_le _
        have := F.len
        omega
theorem len_l (kept : List Str) : ∀ (ks : List T) (l : List Bool) (i bp : Nat) (sc : List Str), wfL l ks → Sc sc kept (depthL ks + 1) → belowL ks i bp sc.length → depthL ks ≤ 40 →
    lenL (shL kept ks i bp sc (unl (sc ++ kept))) ≤ 30 * knotsL ks
  | [], _, _, _, _, _, _, _, _ => Nat.zero_le _
  | k :: ks, l, i, bp, sc, hk, hs, hb, hd => by
    cases l with
    | nil => simp [wfL] at hk
    | cons b bs =>
      simp only [wfL] at hk
      simp only [belowL] at hb
      unfold depthL at hs hd
      have a1 := len_t kept k b (if i = bp then unl (sc ++ kept) :: sc else sc) hk.1 ((hs.child (i = bp)).mono (by omega)) (by
        have hb1 := hb.1
        by_cases q : i = bp
        · rw [if_pos q] at hb1 ⊢
          exact hb1
        · rw [if_neg q] at hb1 ⊢
          exact hb1) (by omega)
      have a2 := len_l kept ks bs (i + 1) bp sc hk.2 (hs.mono (by omega)) hb.2 (by omega)
      show (sh kept k _).length + 1 + lenL (shL kept ks (i + 1) bp sc _) ≤ 30 * (knots k + knotsL ks)
      omega
end
end KP
set_option Elab.async false
set_option linter.all false
set_option maxRecDepth 100000
set_option maxHeartbeats 4000000
/-! KpMath4: the words are read as the thing. -/
namespace KP
open PySem TL

def headW : T → Str
  | .v _ => "var"
  | .nm _ => "name"
  | .nd w ks => match figN (.nd w ks) with
    | some _ => "zero"
    | none => w
def pmOf (t : T) : PM := ⟨t, headW t, knots t, depth t⟩
def wantC (b : Bool) : Nat := if b then 107 else 116
def wantT (b : Bool) : Str := if b then "k" else "t"
theorem wantT_c (b : Bool) : (tl (wantT b))[0]? = some (wantC b) := by cases b <;> decide +kernel
theorem kind_consts : kindS ("var" : Str) = false ∧ kindS ("name" : Str) = false ∧ kindS ("zero" : Str) = false := by decide +kernel
theorem headW_some {w : Str} {ks : List T} {n : Nat} (e : figN (.nd w ks) = some n) : headW (.nd w ks) = "zero" := by
  show (match figN (.nd w ks) with
    | some _ => ("zero" : Str)
    | none => w) = ("zero" : Str)
  rw [e]
theorem headW_none {w : Str} {ks : List T} (e : figN (.nd w ks) = none) : headW (.nd w ks) = w := by
  show (match figN (.nd w ks) with
    | some _ => ("zero" : Str)
    | none => (w : Str)) = w
  rw [e]
theorem head_kind {t : T} {b : Bool} (h : wf b t) : kindS (headW t) = b := by
  cases t with
  | v k => unfold wf at h; rw [h]; exact kind_consts.1
  | nm w => unfold wf at h; rw [h.1]; exact kind_consts.2.1
  | nd w ks =>
    cases e : figN (.nd w ks) with
    | some n =>
      obtain ⟨_, _, _, hb⟩ := figN_eq _ b n h e
      rw [hb, headW_some e]
      exact kind_consts.2.2
    | none =>
      unfold wf at h
      rw [headW_none e]
      exact h.1
theorem wantC_k (b : Bool) : decide (wantC b = 107) = b := by cases b <;> rfl
/-- a part of the kind b is awaited -/
def Ready (fs : List FM) (want : Str) (b : Bool) : Prop := topOpen fs = true ∧ wantS fs want = some (wantC b)
/-- the part takes its place -/
def putM (fs : List FM) (p : PM) : List FM × Option PM := match fs with
  | [] => ([], some p)
  | f :: fs => (⟨f.w, f.b, f.ps ++ [p]⟩ :: fs, none)
theorem placed_ready {fs : List FM} {want : Str} {b : Bool} (h : Ready fs want b) {p : PM} (hp : kindS p.w = b) : placedM fs p want = some (putM fs p) := by
  unfold placedM
  rw [h.2]
  dsimp only
  rw [wantC_k, if_pos hp]
  cases fs <;> rfl
/-- the binders that stand open -/
def bndM : List FM → List Str
  | [] => []
  | f :: fs => if bindsM f then f.b :: bndM fs else bndM fs
theorem named_var {w : Str} {names : List Str} : ∀ (fs : List FM) (o k : Nat), (bndM fs ++ names)[k]? = some w → (bndM fs ++ names).Nodup → namedGo w names fs o = varM (o + k)
  | [], o, k, hk, hn => by
    have hk' : names[k]? = some w := hk
    have hn' : names.Nodup := hn
    unfold namedGo
    rw [if_pos (List.mem_of_getElem? hk')]
    have e : names.idxOf w = k := by
      obtain ⟨hlt, e⟩ := List.getElem?_eq_some_iff.mp hk'
      have hw : w ∈ names := List.mem_of_getElem? hk'
      have h1 := List.idxOf_lt_length_of_mem hw
      have h2 : names[names.idxOf w] = w := List.getElem_idxOf h1
      exact (List.getElem_inj hn').mp (h2.trans e.symm)
    rw [e]
  | f :: fs, o, k, hk, hn => by
    unfold namedGo
    unfold bndM at hk hn
    by_cases hb : bindsM f = true
    · rw [if_pos hb] at hk hn ⊢
      cases k with
      | zero =>
        have e : f.b = w := by simpa using hk
        rw [if_pos e]
        rfl
      | succ k =>
        have hk2 : (bndM fs ++ names)[k]? = some w := by simpa using hk
        have hn2 := List.nodup_cons.mp hn
        have ne : f.b ≠ w := fun e => hn2.1 (e ▸ List.mem_of_getElem? hk2)
        rw [if_neg ne, named_var fs (o + 1) k hk2 hn2.2]
        congr 1
        omega
    · rw [if_neg hb] at hk hn ⊢
      exact named_var fs o k hk hn
theorem named_name {w : Str} {names : List Str} : ∀ (fs : List FM) (o : Nat), w ∉ bndM fs ++ names → namedGo w names fs o = some ⟨.nm w, "name", 1, 1⟩
  | [], o, h => by
    unfold namedGo
    rw [if_neg (show w ∉ names from h)]
  | f :: fs, o, h => by
    unfold namedGo
    unfold bndM at h
    by_cases hb : bindsM f = true
    · rw [if_pos hb] at h ⊢
      have h2 : w ≠ f.b ∧ w ∉ bndM fs ++ names := by
        rw [List.cons_append, List.mem_cons, not_or] at h
        exact h
      rw [if_neg (Ne.symm h2.1)]
      exact named_name fs _ h2.2
    · rw [if_neg hb] at h ⊢
      exact named_name fs _ h
theorem bndM_cons (f : FM) (fs : List FM) : bndM (f :: fs) = if bindsM f then f.b :: bndM fs else bndM fs := rfl
theorem runM_one (names : List Str) (want w : Str) (st : List FM × Option PM) : runM names want [w] st = stepM names want st w := by
  show (stepM names want st w).bind (runM names want []) = _
  cases stepM names want st w <;> rfl
theorem runM_cons (names : List Str) (want w : Str) (ws : List Str) (st : List FM × Option PM) : runM names want (w :: ws) st = (stepM names want st w).bind (runM names want ws) := rfl
theorem bracket_ne : ("(" : Str) ≠ ")" := by decide +kernel
/-- a word by itself -/
theorem step_leaf {names : List Str} {want w : Str} {fs : List FM} {b : Bool} {p : PM} (h : Ready fs want b) (h1 : w ≠ "(") (h2 : w ≠ ")") (hp : leafM w fs names = some p) (hk : kindS p.w = b) : stepM names want (fs, none) w = some (putM fs p) := by
  unfold stepM
  dsimp only
  rw [if_neg h1, if_neg h2]
  cases fs with
  | nil =>
    dsimp only
    rw [hp]
    exact placed_ready h hk
  | cons f fs =>
    have ho : isOpenM f = true := h.1
    dsimp only
    rw [if_pos ho, hp]
    exact placed_ready h hk
theorem step_open {names : List Str} {want : Str} {fs : List FM} {b : Bool} (h : Ready fs want b) : stepM names want (fs, none) "(" = some (⟨"", "", []⟩ :: fs, none) := by
  unfold stepM
  dsimp only
  rw [if_pos rfl, if_pos h.1]
theorem not_open0 : isOpenM ⟨"", "", []⟩ = false := by decide +kernel
theorem step_word {names : List Str} {want w : Str} {fs : List FM} (h1 : w ≠ "(") (h2 : w ≠ ")") (hp : partsS w ≠ "") : stepM names want (⟨"", "", []⟩ :: fs, none) w = some (⟨w, "", []⟩ :: fs, none) := by
  unfold stepM
  dsimp only
  rw [if_neg h1, if_neg h2, not_open0, if_neg Bool.false_ne_true]
  unfold headedM
  dsimp only
  rw [if_pos rfl, if_neg hp]
theorem step_binder {names : List Str} {want w x : Str} {fs : List FM} (hw : w ≠ "") (hb : bindS w = true) (hx : nameS x = true) : stepM names want (⟨w, "", []⟩ :: fs, none) x = some (⟨w, x, []⟩ :: fs, none) := by
  unfold stepM
  dsimp only
  rw [if_neg (name_ne hx bracket_no.1), if_neg (name_ne hx bracket_no.2.1)]
  have ho : isOpenM ⟨w, "", []⟩ = false := by
    unfold isOpenM
    dsimp only
    rw [hb]
    simp
  rw [ho, if_neg Bool.false_ne_true]
  unfold headedM
  dsimp only
  rw [if_neg hw, hb, hx]
  simp
theorem step_close {names : List Str} {want : Str} {fs fs' : List FM} {b : Bool} {p : PM} (hc : closedM fs = some (p, fs')) (h : Ready fs' want b) (hk : kindS p.w = b) : stepM names want (fs, none) ")" = some (putM fs' p) := by
  unfold stepM
  dsimp only
  rw [if_neg (Ne.symm bracket_ne), if_pos rfl, hc]
  exact placed_ready h hk
theorem wfL_length : ∀ {l : List Bool} {ks : List T}, wfL l ks → ks.length = l.length
  | [], [], _ => rfl
  | b :: bs, k :: ks, h => by
    simp only [wfL] at h
    rw [List.length_cons, List.length_cons, wfL_length h.2]
  | [], _ :: _, h => by simp [wfL] at h
  | _ :: _, [], h => by simp [wfL] at h
theorem sumK_map : ∀ ks : List T, sumK (ks.map pmOf) = knotsL ks
  | [] => rfl
  | k :: ks => by
    have ih := sumK_map ks
    unfold sumK at ih ⊢
    rw [List.map_cons, List.map_cons, List.sum_cons, ih]
    rfl
theorem maxL_map : ∀ ks : List T, maxL (ks.map pmOf) = depthL ks
  | [] => rfl
  | k :: ks => by
    have ih := maxL_map ks
    unfold maxL at ih ⊢
    rw [List.map_cons, List.map_cons, List.foldr_cons, ih]
    rfl
theorem tmap (ks : List T) : (ks.map pmOf).map (·.t) = ks := by
  rw [List.map_map]
  exact List.map_id _
theorem len_map_code (l : List Bool) (z : Str) (h : tl z = l.map fun b => if b then 107 else 116) : z.length = l.length := by
  rw [len_tl, h, List.length_map]
theorem leaf_of_leaf {w : Str} {ks : List T} {l : List Bool} (hl : shapeL w = some l) (hk : wfL l ks) (h : w ∈ kwdLeaf) : ks = [] := by
  unfold shapeL at hl
  rw [if_pos h] at hl
  cases hl
  cases ks with
  | nil => rfl
  | cons _ _ => simp [wfL] at hk
theorem kind_nn {w : Str} (h : w = "nat" ∨ w = "none") : w ∈ kwdLeaf ∧ w ≠ "(" ∧ w ≠ ")" := by
  rcases h with rfl | rfl <;> decide +kernel
mutual
theorem run_t (names kept : List Str) (want : Str) : ∀ (t : T) (b : Bool) (fs : List FM), wf b t → Ready fs want b → Sc (bndM fs ++ names) kept (depth t) → below t (bndM fs ++ names).length → small t → knots t ≤ 600 → depth t ≤ 40 →
    (∀ w, w ∈ keptN t → w ∈ kept) → runM names want (toks kept t (bndM fs ++ names)) (fs, none) = some (putM fs (pmOf t))
  | .v k, b, fs, hw, hr, hs, hb, hsm, hn, hd, hkp => by
    unfold wf at hw
    unfold below at hb
    unfold small at hsm
    unfold toks
    rw [runM_one]
    have hm := getD_mem hb
    have hk : (bndM fs ++ names)[k]? = some ((bndM fs ++ names).getD k "") := by
      rw [List.getD_eq_getElem?_getD, List.getElem?_eq_getElem hb]
      rfl
    have nmv := hs.nm _ hm
    have hl : leafM ((bndM fs ++ names).getD k "") fs names = some ⟨.v k, "var", 1, 1⟩ := by
      unfold leafM
      rw [if_neg (fun e => e.elim (name_ne nmv bracket_no.2.2.2.1) (name_ne nmv bracket_no.2.2.2.2)), if_pos nmv, named_var fs 0 k hk hs.nd]
      unfold varM
      rw [Nat.zero_add, if_pos hsm]
    rw [step_leaf hr (name_ne nmv bracket_no.1) (name_ne nmv bracket_no.2.1) hl (by rw [hw]; exact kind_consts.1)]
    rfl
  | .nm w, b, fs, hw, hr, hs, hb, hsm, hn, hd, hkp => by
    unfold wf at hw
    unfold toks
    rw [runM_one]
    have hout : w ∉ bndM fs ++ names := fun hm => hs.ap _ hm (hkp w (by unfold keptN; exact List.mem_singleton.mpr rfl))
    have nmv := hw.2
    have hl : leafM w fs names = some ⟨.nm w, "name", 1, 1⟩ := by
      unfold leafM
      rw [if_neg (fun e => e.elim (name_ne nmv bracket_no.2.2.2.1) (name_ne nmv bracket_no.2.2.2.2)), if_pos nmv, named_name fs 0 hout]
    rw [step_leaf hr (name_ne nmv bracket_no.1) (name_ne nmv bracket_no.2.1) hl (by rw [hw.1]; exact kind_consts.2.1)]
    rfl
  | .nd w ks, b, fs, hw, hr, hs, hb, hsm, hn, hd, hkp => by
    have hhead := head_kind hw
    unfold toks
    cases e : figN (.nd w ks) with
    | some n =>
      obtain ⟨e1, e2, e3, e4⟩ := figN_eq _ b n hw e
      have N := num_of (n := n) (by omega)
      dsimp only
      rw [runM_one]
      have hl : leafM (numT n) fs names = some ⟨figT n, "zero", n + 1, n + 1⟩ := by
        unfold leafM
        rw [if_neg (fun e => e.elim N.n1 N.n2), N.nf, if_neg Bool.false_ne_true, N.back]
      rw [step_leaf hr N.b1 N.b2 hl (by rw [e4]; exact kind_consts.2.2)]
      have ep : pmOf (.nd w ks) = ⟨figT n, "zero", n + 1, n + 1⟩ := by
        unfold pmOf
        rw [e2, e3]
        rw [headW_some e, ← e1]
      rw [ep]
    | none =>
      dsimp only
      have hw' := hw
      unfold wf at hw'
      obtain ⟨hkw, l, hl, hk⟩ := hw'
      have F := form_of hl
      have eh : headW (.nd w ks) = w := headW_none e
      have ep : pmOf (.nd w ks) = ⟨.nd w ks, w, knots (.nd w ks), depth (.nd w ks)⟩ := by
        unfold pmOf
        rw [eh]
      by_cases h1 : w = "nat" ∨ w = "none"
      · rw [if_pos h1]
        rw [runM_one]
        obtain ⟨q1, q2, q3⟩ := kind_nn h1
        have ek := leaf_of_leaf hl hk q1
        subst ek
        have hl : leafM w fs names = some ⟨.nd w [], w, 1, 1⟩ := by
          unfold leafM
          rw [if_pos h1]
        rw [step_leaf hr q2 q3 hl hkw, ep]
        rfl
      · rw [if_neg h1]
        -- a form in brackets
        have nz : w ≠ "zero" := fun ez => by
          subst ez
          have : figN (.nd "zero" ks) = some 0 := by unfold figN; rw [if_pos rfl]
          rw [this] at e
          cases e
        have nl : w ∉ kwdLeaf := fun hm => by
          have hm' : w = "nat" ∨ w = "none" ∨ w = "zero" := by simpa [kwdLeaf] using hm
          rcases hm' with q | q | q
          · exact h1 (.inl q)
          · exact h1 (.inr q)
          · exact nz q
        obtain ⟨hp0, hpl⟩ : partsS w ≠ "" ∧ tl (partsS w) = l.map fun b => if b then 107 else 116 := by
          rcases F.parts with q | q
          · exact absurd q nl
          · rw [hl] at q
            exact q
        have hlen : (partsS w).length = l.length := len_map_code l _ hpl
        have hkl := wfL_length hk
        unfold below at hb
        unfold depth at hs hd
        unfold knots at hn
        unfold small at hsm
        rw [Nat.add_comm] at hs
        have e1 : ("(" : Str) :: w :: (((if bindS w then [unl ((bndM fs ++ names) ++ kept)] else []) ++ toksL kept ks 0 (bpN w) (bndM fs ++ names) (unl ((bndM fs ++ names) ++ kept))) ++ [(")" : Str)]) =
            (("(" : Str) :: w :: (if bindS w then [unl ((bndM fs ++ names) ++ kept)] else [])) ++ (toksL kept ks 0 (bpN w) (bndM fs ++ names) (unl ((bndM fs ++ names) ++ kept)) ++ [(")" : Str)]) := by simp
        rw [e1, runM_app]
        have u := hs.unl
        have g := unl_good u
        -- the head
        have hd0 : runM names want (("(" : Str) :: w :: (if bindS w then [unl ((bndM fs ++ names) ++ kept)] else [])) (fs, none) = some (⟨w, if bindS w then unl ((bndM fs ++ names) ++ kept) else "", []⟩ :: fs, none) := by
          rw [runM_cons, step_open hr]
          show runM names want (w :: _) _ = _
          rw [runM_cons, step_word F.n1 F.n2 hp0]
          by_cases h2 : bindS w = true
          · rw [if_pos h2, if_pos h2]
            show runM names want [_] _ = _
            rw [runM_one, step_binder F.n0 h2 g.1]
          · rw [if_neg h2, if_neg h2]
            rfl
        rw [hd0]
        show runM names want (toksL kept ks 0 (bpN w) _ _ ++ _) (⟨w, _, []⟩ :: fs, none) = _
        rw [runM_app]
        have q := run_l names kept want ks l [] [] fs w hk hs hb hsm (by omega) (by omega) (fun x hx => hkp x (by unfold keptN; exact hx)) hl hpl F.n0 hkl
        rw [show (([] : List PM)).length = 0 from rfl] at q
        rw [q]
        show runM names want [(")" : Str)] (⟨w, _, [] ++ ks.map pmOf⟩ :: fs, none) = _
        have ne : ks ≠ [] := fun ez => by
          rw [ez] at hkl
          have : (partsS w).length = 0 := by rw [hlen, ← hkl]; rfl
          exact hp0 (ext_tl (by rw [tl_empty]; exact List.eq_nil_of_length_eq_zero (by rw [← len_tl]; exact this)))
        have hc : closedM (⟨w, if bindS w then unl ((bndM fs ++ names) ++ kept) else "", [] ++ ks.map pmOf⟩ :: fs) = some (pmOf (.nd w ks), fs) := by
          unfold closedM
          dsimp only
          rw [List.nil_append, sumK_map, maxL_map, tmap, if_pos ⟨F.n0, by rw [List.length_map]; omega, fun z => ne (List.map_eq_nil_iff.mp z), hn, hd⟩, ep]
          rfl
        rw [runM_one, step_close hc hr hhead]
theorem run_l (names kept : List Str) (want : Str) : ∀ (ks : List T) (l : List Bool) (l0 : List Bool) (ps : List PM) (fs : List FM) (w : Str), wfL l ks → Sc (bndM fs ++ names) kept (depthL ks + 1) → belowL ks ps.length (bpN w) (bndM fs ++ names).length → smallL ks →
    knotsL ks ≤ 600 → depthL ks ≤ 40 → (∀ x, x ∈ keptL ks → x ∈ kept) → shapeL w = some (l0 ++ l) → tl (partsS w) = (l0 ++ l).map (fun b => if b then 107 else 116) → w ≠ "" → ks.length = l.length → (hl0 : l0.length = ps.length := by rfl) →
    runM names want (toksL kept ks ps.length (bpN w) (bndM fs ++ names) (unl ((bndM fs ++ names) ++ kept))) (⟨w, if bindS w then unl ((bndM fs ++ names) ++ kept) else "", ps⟩ :: fs, none) =
      some (⟨w, if bindS w then unl ((bndM fs ++ names) ++ kept) else "", ps ++ ks.map pmOf⟩ :: fs, none)
  | [], _, _, ps, fs, w, _, _, _, _, _, _, _, _, _, _, _, _ => by
    unfold toksL runM
    rw [List.map_nil, List.append_nil]
  | k :: ks, l, l0, ps, fs, w, hk, hs, hb, hsm, hn, hd, hkp, hsh, hpl, hw0, hll, hl0 => by
    cases l with
    | nil => simp [wfL] at hk
    | cons b bs =>
      simp only [wfL] at hk
      simp only [belowL] at hb
      unfold depthL at hs hd
      unfold knotsL at hn
      unfold smallL at hsm
      have g := unl_good hs.unl
      have hlen : (partsS w).length = l0.length + (bs.length + 1) := by rw [len_map_code _ _ hpl, List.length_append, List.length_cons]
      have hopen : isOpenM ⟨w, if bindS w then unl ((bndM fs ++ names) ++ kept) else "", ps⟩ = true := by
        unfold isOpenM
        dsimp only
        rw [decide_eq_false hw0, decide_eq_true (show ps.length < (partsS w).length by omega)]
        by_cases h2 : bindS w = true
        · rw [h2, if_pos rfl, decide_eq_false (name_ne g.1 bracket_no.2.2.1)]
          rfl
        · rw [Bool.eq_false_iff.mpr h2]
          rfl
      have hready : Ready (⟨w, if bindS w then unl ((bndM fs ++ names) ++ kept) else "", ps⟩ :: fs) want b := by
        refine ⟨hopen, ?_⟩
        show (tl (partsS w))[ps.length]? = _
        rw [hpl, List.getElem?_map, ← hl0]
        rw [List.getElem?_append_right (Nat.le_refl _), Nat.sub_self]
        rfl
      have hbnd : bndM (⟨w, if bindS w then unl ((bndM fs ++ names) ++ kept) else "", ps⟩ :: fs) ++ names = if ps.length = bpN w then unl ((bndM fs ++ names) ++ kept) :: (bndM fs ++ names) else bndM fs ++ names := by
        rw [bndM_cons]
        unfold bindsM
        dsimp only
        by_cases h2 : bindS w = true
        · have eb : bpN w = bpS w := by unfold bpN; rw [if_pos h2]
          rw [h2, eb, if_pos rfl, Bool.true_and]
          by_cases h3 : bpS w = ps.length
          · rw [decide_eq_true h3, if_pos rfl, if_pos h3.symm]
            rfl
          · rw [decide_eq_false h3, if_neg Bool.false_ne_true, if_neg (Ne.symm h3)]
        · have eb : bpN w = 9 := by unfold bpN; rw [if_neg h2]
          have h4 : (shapeL w) = some (l0 ++ b :: bs) := hsh
          have h5 : l0.length + (bs.length + 1) ≤ 4 := by
            have q := all16_len w (shapeL_mem hsh)
            rw [hsh] at q
            have := of_decide_eq_true q
            simpa using this
          rw [Bool.eq_false_iff.mpr h2, Bool.false_and, if_neg Bool.false_ne_true, if_neg (by omega)]
      have a1 := run_t names kept want k b (⟨w, if bindS w then unl ((bndM fs ++ names) ++ kept) else "", ps⟩ :: fs) hk.1 hready (by rw [hbnd]; exact (hs.child _).mono (by omega)) (by
        rw [hbnd]
        have hb1 := hb.1
        by_cases q : ps.length = bpN w
        · rw [if_pos q] at hb1 ⊢
          exact hb1
        · rw [if_neg q] at hb1 ⊢
          exact hb1) hsm.1 (by omega) (by omega) (fun x hx => hkp x (by unfold keptL; exact List.mem_append_left _ hx))
      rw [hbnd] at a1
      unfold toksL
      rw [runM_app, a1]
      have a2 := run_l names kept want ks bs (l0 ++ [b]) (ps ++ [pmOf k]) fs w hk.2 (hs.mono (by omega)) (by rw [List.length_append]; exact hb.2) hsm.2 (by omega) (by omega) (fun x hx => hkp x (by unfold keptL; exact List.mem_append_right _ hx))
        (by rw [List.append_assoc]; exact hsh) (by rw [List.append_assoc]; exact hpl) hw0 (by simpa using hll) (by simp [hl0])
      rw [List.length_append, List.length_singleton] at a2
      show runM names want _ (⟨w, _, ps ++ [pmOf k]⟩ :: fs, none) = _
      have e9 : ps ++ [pmOf k] ++ ks.map pmOf = ps ++ (k :: ks).map pmOf := by simp
      rw [a2, e9]
end
end KP
set_option Elab.async false
set_option linter.all false
set_option maxRecDepth 100000
set_option maxHeartbeats 4000000
/-! KpBase: defs by name, what stands in the heap. -/
namespace KP
open PySem PySem.Spec PyProof.Rows L2
section
variable {P : Program} {w : World} {K : PySem.W.Frag} {mg : Str → Option Value} {base : Heap}
/-- a def of the text stands behind the top -/
structure Def (K : PySem.W.Frag) (mg : Str → Option Value) (x : Str) (st : Stmt) (ps : List Str) : Prop where
  ex : ∃ f fd, FunD K x x (defArgs st) (defBody st) (defScope st) [] [] f fd ∧ mg x = some (.ref f) ∧ Binds K fd ps []
/-- the def x keeps a promise -/
structure Good (P : Program) (w : World) (K : PySem.W.Frag) (mg : Str → Option Value) (base : Heap) (k : Nat) (x : Str) (ps : List Str) (sp : Sp) : Prop where
  ex : ∃ f fd, FnOk P w K mg base CX0 k f fd ps sp ∧ mg x = some (.ref f) ∧ PySem.W.keepIn K (.ref f) = true ∧ Binds K fd ps []
theorem Def.ok {x : Str} {st : Stmt} {N ps : List Str} {k : Nat} {sp : Sp} (D : Def K mg x st ps) (S : FnScope N ps (defScope st)) (len : ∀ vs H Q E, sp vs H Q E → vs.length = ps.length)
    (hbody : ∀ (cdv : Value) (A : Around) (outer : List Env) (s : Shared) (H : Hp) (vs : List V) (Q : VK) (E : XK) (f : Addr), Room k (A.deeper (envOfC x (defScope st) s.heap.objs.size f cdv)) → sp vs H Q E →
      ∃ t, PSs (cxOf CX0 P w K mg base N x (defScope st) f cdv A outer s H E).nox (defBody st) t ∧ t { nx := fun _ H' => Q .non H', rt := Q } (start N vs) H) : Good P w K mg base (k + 1) x ps sp := by
  obtain ⟨f, fd, F, m, b⟩ := D.ex
  refine ⟨f, fd, F.ok S len fun cdv A outer s H vs Q E hr h => ?_, m, F.kp, b⟩
  obtain ⟨t, h1, h2⟩ := hbody cdv A outer s H vs Q E f hr h
  exact ⟨t, h1.nox, h2⟩
theorem Good.mono {x : Str} {ps : List Str} {j k : Nat} {sp : Sp} (G : Good P w K mg base j x ps sp) (h : j ≤ k) : Good P w K mg base k x ps sp := by
  obtain ⟨f, fd, F, r⟩ := G.ex
  exact ⟨f, fd, F.mono h, r⟩
theorem Good.none {x : Str} {st : Stmt} {ps : List Str} {k : Nat} {sp : Sp} (D : Def K mg x st ps) (no : ∀ vs H Q E, ¬ sp vs H Q E) : Good P w K mg base k x ps sp := by
  obtain ⟨f, fd, F, m, b⟩ := D.ex
  exact ⟨f, fd, ⟨fun vs H Q E h => absurd h (no vs H Q E), fun A outer s H args us vs Q E _ _ _ _ h => absurd h (no vs H Q E)⟩, m, F.kp, b⟩
theorem gcall {X : Cx} {x : Str} {ps : List Str} {k : Nat} {sp : Sp} {e : Expr} {es : List Expr} {t : TA} {p pos : Pos} (G : Good X.prog X.w X.K X.mg X.base k x ps sp) (hr : Room k X.A) (ha : PA X (e :: es) t) (hg : Gl X x := by rfl)
    (hdb : (x == ("__debug__" : Str)) = false := by decide) (he : starEach (e :: es) X.env = (false, eval e X.env) :: starEach es X.env := by rfl) (hpl : (backTo pos (starEach es X.env)).any (·.1) = false := by rfl) :
    PE X (.Call (.Name x p) (e :: es) [] pos) (tCall sp [] E0 t) := by
  obtain ⟨f, fd, F, m, kp, b⟩ := G.ex
  exact pe_call F hr hg m kp b .nil pass0 ha hdb he hpl
end
/-! ### heaps -/
theorem same_new {H : Hp} {p : Addr} (h : H p = none) (o : HO) : Same H (upd H p o) := fun b u q => by rw [upd_ne (ne_of_none q h)]; exact q
/-- all but what stands at d is as it was -/
def Kp (d : Addr) (H H' : Hp) : Prop := ∀ b o, b ≠ d → H b = some o → H' b = some o
theorem Kp.refl (d : Addr) (H : Hp) : Kp d H H := fun _ _ _ h => h
theorem Kp.trans {d : Addr} {H H1 H2 : Hp} (a : Kp d H H1) (b : Kp d H1 H2) : Kp d H H2 := fun c o n h => b c o n (a c o n h)
theorem _root_.L2.Same.kp {d : Addr} {H H' : Hp} (a : Same H H') : Kp d H H' := fun c o _ h => a c o h
theorem kp_upd {d : Addr} {H : Hp} {o : HO} : Kp d H (upd H d o) := fun b u n q => by rw [upd_ne n]; exact q
/-- tuples stay -/
def Tk (H H' : Hp) : Prop := ∀ a xs, H a = some (.tup xs) → H' a = some (.tup xs)
theorem Tk.refl (H : Hp) : Tk H H := fun _ _ h => h
theorem Tk.trans {H H1 H2 : Hp} (a : Tk H H1) (b : Tk H1 H2) : Tk H H2 := fun c o h => b c o (a c o h)
theorem _root_.L2.Same.tk {H H' : Hp} (a : Same H H') : Tk H H' := fun b xs h => a b _ h
theorem Kp.tk {d : Addr} {H H' : Hp} {o : HO} (a : Kp d H H') (h : H d = some o) (n : ∀ xs, o ≠ .tup xs) : Tk H H' := fun b xs q => a b _ (fun e => by
  subst e
  rw [h] at q
  exact n xs (Option.some.inj q)) q
/-! ### things in the heap -/
mutual
def At (H : Hp) : T → V → Prop
  | .v k, x => ∃ a, x = .ref a ∧ H a = some (.tup [.str "var", .int (k : Int)])
  | .nm w, x => ∃ a, x = .ref a ∧ H a = some (.tup [.str "name", .str w])
  | .nd w ks, x => ∃ a vs, x = .ref a ∧ H a = some (.tup (.str w :: vs)) ∧ AtL H ks vs
def AtL (H : Hp) : List T → List V → Prop
  | [], vs => vs = []
  | k :: ks, vs => ∃ v r, vs = v :: r ∧ At H k v ∧ AtL H ks r
end
mutual
theorem At.mono {H H' : Hp} (h : Tk H H') : ∀ {t : T} {x : V}, At H t x → At H' t x
  | .v k, x, q => by
    unfold At at q ⊢
    obtain ⟨a, e, q⟩ := q
    exact ⟨a, e, h _ _ q⟩
  | .nm w, x, q => by
    unfold At at q ⊢
    obtain ⟨a, e, q⟩ := q
    exact ⟨a, e, h _ _ q⟩
  | .nd w ks, x, q => by
    unfold At at q ⊢
    obtain ⟨a, vs, e, q, r⟩ := q
    exact ⟨a, vs, e, h _ _ q, AtL.mono h r⟩
theorem AtL.mono {H H' : Hp} (h : Tk H H') : ∀ {ks : List T} {vs : List V}, AtL H ks vs → AtL H' ks vs
  | [], vs, q => by
    unfold AtL at q ⊢
    exact q
  | k :: ks, vs, q => by
    unfold AtL at q ⊢
    obtain ⟨v, r, e, q1, q2⟩ := q
    exact ⟨v, r, e, At.mono h q1, AtL.mono h q2⟩
end
theorem AtL.length {H : Hp} : ∀ {ks : List T} {vs : List V}, AtL H ks vs → vs.length = ks.length
  | [], vs, q => by
    unfold AtL at q
    subst q
    rfl
  | k :: ks, vs, q => by
    unfold AtL at q
    obtain ⟨v, r, e, _, q2⟩ := q
    subst e
    rw [List.length_cons, List.length_cons, AtL.length q2]
/-- the i-th child -/
theorem AtL.get {H : Hp} : ∀ {ks : List T} {vs : List V} {i : Nat} {v : V}, AtL H ks vs → vs[i]? = some v → ∃ k, ks[i]? = some k ∧ At H k v ∧ ks.drop i = k :: ks.drop (i + 1)
  | [], vs, i, v, q, h => by
    unfold AtL at q
    subst q
    simp at h
  | k :: ks, vs, i, v, q, h => by
    unfold AtL at q
    obtain ⟨v0, r, e, q1, q2⟩ := q
    subst e
    cases i with
    | zero =>
      have e : v0 = v := by simpa using h
      subst e
      exact ⟨k, rfl, q1, rfl⟩
    | succ i =>
      obtain ⟨k', h1, h2, h3⟩ := AtL.get (i := i) q2 (by simpa using h)
      exact ⟨k', by simpa using h1, h2, by simpa using h3⟩
/-- the first word -/
def hdW : T → Str
  | .v _ => "var"
  | .nm _ => "name"
  | .nd w _ => w
def kidsT : T → List T
  | .nd _ ks => ks
  | _ => []
theorem At.tup {H : Hp} {t : T} {x : V} (h : At H t x) : ∃ a xs, x = .ref a ∧ H a = some (.tup (.str (hdW t) :: xs)) := by
  cases t with
  | v k => unfold At at h; obtain ⟨a, e, q⟩ := h; exact ⟨a, _, e, q⟩
  | nm w => unfold At at h; obtain ⟨a, e, q⟩ := h; exact ⟨a, _, e, q⟩
  | nd w ks => unfold At at h; obtain ⟨a, vs, e, q, _⟩ := h; exact ⟨a, vs, e, q⟩
theorem At.var {H : Hp} {k : Nat} {x : V} (h : At H (.v k) x) : ∃ a, x = .ref a ∧ H a = some (.tup [.str "var", .int (k : Int)]) := by unfold At at h; exact h
theorem At.nam {H : Hp} {w : Str} {x : V} (h : At H (.nm w) x) : ∃ a, x = .ref a ∧ H a = some (.tup [.str "name", .str w]) := by unfold At at h; exact h
theorem At.nod {H : Hp} {w : Str} {ks : List T} {x : V} (h : At H (.nd w ks) x) : ∃ a vs, x = .ref a ∧ H a = some (.tup (.str w :: vs)) ∧ AtL H ks vs := by unfold At at h; exact h
theorem At.mk {H : Hp} {w : Str} {ks : List T} {a : Addr} {vs : List V} (h : H a = some (.tup (.str w :: vs))) (q : AtL H ks vs) : At H (.nd w ks) (.ref a) := by unfold At; exact ⟨a, vs, rfl, h, q⟩
theorem AtL.nil {H : Hp} : AtL H [] [] := by unfold AtL; rfl
theorem AtL.cons {H : Hp} {k : T} {ks : List T} {v : V} {vs : List V} (h : At H k v) (q : AtL H ks vs) : AtL H (k :: ks) (v :: vs) := by unfold AtL; exact ⟨v, vs, rfl, h, q⟩
theorem AtL.app {H : Hp} : ∀ {ks ms : List T} {vs us : List V}, AtL H ks vs → AtL H ms us → AtL H (ks ++ ms) (vs ++ us)
  | [], ms, vs, us, q, r => by
    unfold AtL at q
    subst q
    exact r
  | k :: ks, ms, vs, us, q, r => by
    unfold AtL at q
    obtain ⟨v0, r0, e, q1, q2⟩ := q
    subst e
    exact .cons q1 (AtL.app q2 r)
mutual
theorem At.dp {K : PySem.W.Frag} {H : Hp} : ∀ {t : T} {x : V}, At H t x → Dp K H x (pd t)
  | .v k, x, h => by
    obtain ⟨a, rfl, q⟩ := h.var
    unfold pd
    exact .tup (SqT.of q) (.cons (.str _) (.cons (.int _) .nil))
  | .nm w, x, h => by
    obtain ⟨a, rfl, q⟩ := h.nam
    unfold pd
    exact .tup (SqT.of q) (.cons (.str _) (.cons (.str _) .nil))
  | .nd w ks, x, h => by
    obtain ⟨a, vs, rfl, q, r⟩ := h.nod
    unfold pd
    exact .tup (SqT.of q) (.cons (.str _) (AtL.dp r))
theorem AtL.dp {K : PySem.W.Frag} {H : Hp} : ∀ {ks : List T} {vs : List V}, AtL H ks vs → DpAll K H vs (pdL ks)
  | [], vs, h => by
    unfold AtL at h
    subst h
    exact .nil
  | k :: ks, vs, h => by
    unfold AtL at h
    obtain ⟨v, r, rfl, q1, q2⟩ := h
    exact .cons (At.dp q1) (AtL.dp q2)
end
/-! ### small things -/
theorem at0 {x : V} {xs : List V} : atI (x :: xs) (0 : Int) = some x := at_of (j := 0) rfl rfl
theorem at1 {x y : V} {xs : List V} : atI (x :: y :: xs) (1 : Int) = some y := at_of (j := 1) rfl rfl
theorem ix_tupR {K : PySem.W.Frag} {H : Hp} {p : Addr} {xs : List V} {i : Int} {v : V} {Q : VK} (h : H p = some (.tup xs)) (e : atI xs i = some v) (q : Q v H) : rIxT K (.ref p) (.int i) H Q := ⟨p, xs, i, v, rfl, rfl, SqT.of h, e, q⟩
theorem inV_str (w : Str) : ∀ ws : List Str, inV (.str w) (ws.map V.str) = decide (w ∈ ws)
  | [] => rfl
  | z :: ws => by
    show (eqV (.str z) (.str w) || inV (.str w) (ws.map V.str)) = _
    rw [inV_str w ws]
    show ((z == w) || _) = _
    by_cases e : z = w
    · subst e
      simp
    · have e2 : ¬ w = z := fun q => e q.symm
      simp [e, e2]
theorem flat_str (ws : List Str) : (ws.map V.str).all flatV = true := by
  rw [List.all_map, List.all_eq_true]
  intro x _
  rfl
theorem smallN {n : Nat} (h : n ≤ 1000000) : n ≤ sizeLine := by
  rw [sizeLine_eq]
  omega
theorem smallLt {n : Nat} (h : n ≤ 1000000) : n < sizeLine := by
  rw [sizeLine_eq]
  omega
theorem pe_never {X : Cx} {e : Expr} : PE X e (fun _ _ _ => False) := ⟨fun _ _ _ _ _ _ h => h.elim⟩
theorem pt_never {X : Cx} {e : Expr} : PT X e (fun _ _ _ => False) := ⟨fun _ _ _ _ _ _ h => h.elim⟩
theorem hu2 {A : Around} {k : Nat} (hr : Room (k + 1) A) : A.units + 65 < cLine := by
  have h1 : A.in1.units = A.units + 1 := rfl
  have h2 := hr.in1.units
  omega
/-- the built-in names that the program uses are not the module's -/
structure Blt (mg : Str → Option Value) : Prop where
  len : mg "len" = none
  isinstance : mg "isinstance" = none
  int : mg "int" = none
  str : mg "str" = none
  tuple : mg "tuple" = none
  bool : mg "bool" = none
  range : mg "range" = none
  all : mg "all" = none
  list : mg "list" = none
  zip : mg "zip" = none
  sorted : mg "sorted" = none
  max : mg "max" = none
  min : mg "min" = none
  sum : mg "sum" = none
  reversed : mg "reversed" = none
theorem iteFc {c : Bool} {A B : Prop} (e : c = false) (h : B) : if c = true then A else B := by
  rw [e]
  exact iteF h
theorem iteTc {c : Bool} {A B : Prop} (e : c = true) (h : A) : if c = true then A else B := by
  rw [e]
  exact iteT h
/-- a known test -/
theorem ite_c {c : Bool} {A B : Prop} (b : Bool) (e : c = b) (h : if b = true then A else B) : if c = true then A else B := by
  rw [e]
  exact h
end KP
set_option Elab.async false
set_option linter.all false
set_option maxRecDepth 100000
set_option maxHeartbeats 4000000
/-! KpRules: rules that the layer lacks: max(xs, default=d), min(a, b, c). -/
namespace KP
open PySem PySem.Spec PyProof.Rows L2
section
variable {X : Cx}
/-- max(xs, default=d): d of an empty list, else an item -/
def rMaxD (K : PySem.W.Frag) : List V → List V → Hp → VK → Prop := fun vs zs H Q => ∃ (a : Addr) (ns : List Int) (d : Int), vs = [V.ref a] ∧ zs = [.int d] ∧ SqL K H a (ns.map V.int) ∧ (ns = [] → Q (.int d) H) ∧ ∀ m, m ∈ ns → Q (.int m) H
theorem cr_maxD {k : Nat} (hr : Room k X.A) (hc : X.calm = true) : CallRK X (.builtin "max") [Str.ofString "default"] (rMaxD X.K) := by
  intro pins s σ H vs zs us ws Q I r rz h
  obtain ⟨a, ns, d, rfl, rfl, hs, q0, q1⟩ := h
  obtain rfl := Vals.ref1 r
  obtain ⟨w1, rfl, e1⟩ := vals1 rz
  obtain ⟨t, rfl⟩ : ∃ t, w1 = Value.int d t := e1
  obtain ⟨its, rv, hl, hz⟩ := I.list hs
  have hi := rv.ints
  refine PySem.W.max_list_datum_default (α := Int) (xs := ns) (I.ok.hd hc) hl.isList (by simpa using PySem.W.HoldAll.of_ints hi) (by have := hr.units; show X.A.units + 1 + 0 < cLine; omega)
    (fun e h' tk k => ⟨.int d, H, I.kept k, ⟨t, rfl⟩, q0 e⟩) fun y ys i v h' tk e hv hh k => ?_
  have hv2 : its[i]? = some v := by simpa using hv
  obtain ⟨m, hm, hm2⟩ := PySem.W.HoldAll.at (h := s.heap) (PySem.W.HoldAll.of_ints hi) hv2
  obtain ⟨t2, rfl⟩ := PySem.W.int_of_holds hm2
  exact ⟨.int m, H, I.kept k, ⟨t2, rfl⟩, q1 m (List.mem_of_getElem? hm)⟩
/-- min(a, b, c) of ints -/
def min3 (a b c : Int) : Int := min a (min b c)
theorem call_min3 (hc : X.calm = true) : CallR X (.builtin "min") (fun xs H Q => ∃ i j k, xs = [.int i, .int j, .int k] ∧ Q (.int (min3 i j k)) H) := by
  intro pins s σ H xs us Q I r h
  obtain ⟨i, j, k, rfl, q⟩ := h
  cases r with
  | cons r1 r =>
    cases r with
    | cons r2 r =>
      cases r with
      | cons r3 r =>
        cases r
        obtain ⟨t, rfl⟩ := r1
        obtain ⟨u, rfl⟩ := r2
        obtain ⟨x, rfl⟩ := r3
        refine min_three_ints (I.ok.hd hc) fun h' tk kk => ⟨.int (min3 i j k), H, I.kept kk, ?_, q⟩
        unfold min3
        split
        · split
          · exact ⟨x, by rw [show min i (min j k) = k by omega]⟩
          · exact ⟨u, by rw [show min i (min j k) = j by omega]⟩
        · split
          · exact ⟨x, by rw [show min i (min j k) = k by omega]⟩
          · exact ⟨t, by rw [show min i (min j k) = i by omega]⟩
/-- None in xs, where xs holds tuples alone -/
def rInNone (K : PySem.W.Frag) : R2 := fun x y H Q => ∃ p us, x = .non ∧ y = .ref p ∧ SqL K H p us ∧ (∀ u ∈ us, ∃ a xs, u = V.ref a ∧ H a = some (.tup xs)) ∧ Q (.bl false) H
theorem op_in_none {k : Nat} (hr : Room k X.A) : OpR X (compareOp .In) (rInNone X.K) := by
  intro pins s σ H x y v u Q I rx ry h
  obtain ⟨p, us, rfl, rfl, hq, hu, q⟩ := h
  cases rx
  cases ry
  obtain ⟨its, r, pl, hz⟩ := I.list hq
  have all : ∀ w ∈ its, SeqAt.EqAt X.A.in1 s w .none false := by
    intro w hw
    obtain ⟨i, hi⟩ := List.getElem?_of_mem hw
    have hlt : i < us.length := by rw [r.length]; exact (List.getElem?_eq_some_iff.mp hi).1
    obtain ⟨w2, e2, rv⟩ := r.get (List.getElem?_eq_getElem hlt)
    rw [hi] at e2
    cases e2
    obtain ⟨a, xs, e3, h3⟩ := hu _ (List.getElem_mem hlt)
    rw [e3] at rv
    cases (show w = Value.ref a from rv)
    obtain ⟨_, its2, _, p2⟩ := I.hok _ _ h3
    exact SeqAt.EqAt.tuple_none (show s.heap.IsTuple a its2.toArray from p2) (by have := hr.units; show X.A.units + 1 < cLine; omega)
  refine SeqAt.in_listAt (fun _ => false) pl.isList (fun w hw => all w (by simpa using hw)) ⟨.bl false, H, I, ?_, q⟩
  have e : its.toArray.any (fun _ => false) = false := by simp
  rw [e]
  rfl
end
end KP
set_option Elab.async false
set_option linter.all false
set_option maxRecDepth 100000
set_option maxHeartbeats 4000000
/-! KpWords: the defs about words. -/
namespace KP
open PySem PySem.Spec PyProof.Rows L2
section
variable {K : PySem.W.Frag} {σ : L2.St} {H : Hp} {D : Ends} {w : Str} {ws : List Str} {z : V} {ta : TA} {rest : TS} {Q : VK}
theorem rIn_new {p : Addr} (h : Q (.bl (decide (w ∈ ws))) (upd H p (.tup (ws.map V.str)))) : rIn K false (.str w) (.ref p) (upd H p (.tup (ws.map V.str))) Q :=
  ⟨p, _, rfl, .inr (SqT.of upd_same), rfl, flat_str ws, by rw [inV_str]; exact h⟩
/-- word in (..) -/
theorem in_val (hv : σ[0]? = some (some (V.str w))) (ha : ∀ (H : Hp) (Q : List V → Hp → Prop), Q (ws.map V.str) H → ta σ H Q) (hl : ws.length ≤ 1000) (h : ∀ H', Same H H' → Q (.bl (decide (w ∈ ws))) H') :
    tOp (rIn K false) (tVar 0) (tTup ta) σ H Q :=
  ⟨_, hv, ha _ _ ⟨by rw [List.length_map]; exact smallN (by omega), fun p hp => rIn_new (h _ (same_new hp _))⟩⟩
/-- if word in (..): return z -/
theorem in_ret (hv : σ[0]? = some (some (V.str w))) (ha : ∀ (H : Hp) (Q : List V → Hp → Prop), Q (ws.map V.str) H → ta σ H Q) (hl : ws.length ≤ 1000) (h1 : w ∈ ws → ∀ H', Same H H' → D.rt z H') (h2 : w ∉ ws → ∀ H', Same H H' → rest D σ H') :
    tSeq (tIfS (tTest (tOp (rIn K false) (tVar 0) (tTup ta))) (tRet (tC z)) tNext) rest D σ H :=
  in_val hv ha hl fun H' s => ⟨_, rfl, ite2 (fun c => h1 (of_decide_eq_true c) H' s) (fun c => h2 (fun q => c (decide_eq_true q)) H' s)⟩
/-- if word == a: return z -/
theorem eq_ret {a : Str} (hv : σ[0]? = some (some (V.str w))) (h1 : w = a → D.rt z H) (h2 : w ≠ a → rest D σ H) :
    tSeq (tIfS (tTest (tOp rEq (tVar 0) (tC (.str a)))) (tRet (tC z)) tNext) rest D σ H :=
  ⟨_, hv, rfl, _, rfl, ite2 (fun c => h1 (V.str.inj (of_decide_eq_true c))) (fun c => h2 (fun q => c (decide_eq_true (by rw [q]))))⟩
end
def oV : Option Str → V
  | some z => .str z
  | none => .non
/-! ### the promises -/
def spShape : Sp := fun vs H Q _ => ∃ w, vs = [.str w] ∧ ∀ H', Same H H' → Q (oV (shapeS w)) H'
def spKindW : Sp := fun vs H Q _ => ∃ w, vs = [.str w] ∧ ∀ H', Same H H' → Q (.bl (kindS w)) H'
def spParts : Sp := fun vs H Q _ => ∃ w, vs = [.str w] ∧ ∀ H', Same H H' → Q (.str (partsS w)) H'
def spBinds : Sp := fun vs H Q _ => ∃ w, vs = [.str w] ∧ ∀ H', Same H H' → Q (.bl (bindS w)) H'
def spBound : Sp := fun vs H Q _ => ∃ w, vs = [.str w] ∧ ∀ H', Same H H' → Q (.int ((bpS w : Nat) : Int)) H'
def spName : Sp := fun vs H Q _ => ∃ w : Str, vs = [.str w] ∧ w.length ≤ 1000000 ∧ ∀ H', Same H H' → Q (.bl (nameS w)) H'
section
variable {P : Program} {w : World} {K : PySem.W.Frag} {mg : Str → Option Value} {base : Heap}
abbrev n_shape_of : List Str := ["word"]
theorem sc_shape_of : FnScope n_shape_of ["word"] (defScope s_shape_of) := ⟨rfl, rfl, rfl, by decide +kernel, rfl, by decide +kernel, by decide +kernel⟩
theorem ok_shape_of (D : Def K mg "shape_of" s_shape_of ["word"]) : Good P w K mg base 1 "shape_of" ["word"] spShape := by
  refine D.ok sc_shape_of (fun vs H Q E h => ?_) (fun cdv A outer s H vs Q E f hr h => ?_)
  · obtain ⟨z, rfl, _⟩ := h
    rfl
  obtain ⟨z, rfl, q⟩ := h
  refine ⟨_, (pss_cons (ps_if (pt_cmpR op_in_seq (pv 0) (pe_tup (pa_cons pe_str (pa_cons pe_str (pa_cons pe_str pa_nil)))) (by rfl)) (pss_one (ps_ret pe_str)) pss_nil)
    (pss_cons (ps_if (pt_cmpR op_in_seq (pv 0) (pe_tup (pa_cons pe_str (pa_cons pe_str pa_nil))) (by rfl)) (pss_one (ps_ret pe_str)) pss_nil)
    (pss_cons (ps_if (pt_cmpR op_in_seq (pv 0) (pe_tup (pa_cons pe_str (pa_cons pe_str (pa_cons pe_str pa_nil)))) (by rfl)) (pss_one (ps_ret pe_str)) pss_nil)
    (pss_cons (ps_if (pt_cmpR op_in_seq (pv 0) (pe_tup (pa_cons pe_str (pa_cons pe_str (pa_cons pe_str pa_nil)))) (by rfl)) (pss_one (ps_ret pe_str)) pss_nil)
    (pss_cons (ps_if (pt_cmpR op_in_seq (pv 0) (pe_tup (pa_cons pe_str (pa_cons pe_str (pa_cons pe_str pa_nil)))) (by rfl)) (pss_one (ps_ret pe_str)) pss_nil)
    (pss_cons (ps_if (pt_cmpR op_eq (pv 0) pe_str (nomark _)) (pss_one (ps_ret pe_str)) pss_nil)
    (pss_cons (ps_if (pt_cmpR op_eq (pv 0) pe_str (nomark _)) (pss_one (ps_ret pe_str)) pss_nil)
    (pss_cons (ps_if (pt_cmpR op_eq (pv 0) pe_str (nomark _)) (pss_one (ps_ret pe_str)) pss_nil)
    (pss_cons (ps_if (pt_cmpR op_eq (pv 0) pe_str (nomark _)) (pss_one (ps_ret pe_str)) pss_nil)
    (pss_one (ps_ret pe_non))))))))))), ?_⟩
  unfold shapeS at q
  refine in_ret (ws := kwdLeaf) (w := z) rfl (fun _ _ h => h) (by decide) (fun c H1 s1 => ?_) (fun c H1 s1 => ?_)
  · rw [if_pos c] at q; exact q _ s1
  rw [if_neg c] at q
  refine in_ret (ws := kwdKK) (w := z) rfl (fun _ _ h => h) (by decide) (fun c H2 s2 => ?_) (fun c H2 s2 => ?_)
  · rw [if_pos c] at q; exact q _ (s1.trans s2)
  rw [if_neg c] at q
  refine in_ret (ws := kwdKT) (w := z) rfl (fun _ _ h => h) (by decide) (fun c H3 s3 => ?_) (fun c H3 s3 => ?_)
  · rw [if_pos c] at q; exact q _ ((s1.trans s2).trans s3)
  rw [if_neg c] at q
  refine in_ret (ws := kwdKTT) (w := z) rfl (fun _ _ h => h) (by decide) (fun c H4 s4 => ?_) (fun c H4 s4 => ?_)
  · rw [if_pos c] at q; exact q _ (((s1.trans s2).trans s3).trans s4)
  rw [if_neg c] at q
  refine in_ret (ws := kwdT) (w := z) rfl (fun _ _ h => h) (by decide) (fun c H5 s5 => ?_) (fun c H5 s5 => ?_)
  · rw [if_pos c] at q; exact q _ ((((s1.trans s2).trans s3).trans s4).trans s5)
  rw [if_neg c] at q
  have S := (((s1.trans s2).trans s3).trans s4).trans s5
  refine eq_ret (w := z) rfl (fun c => ?_) (fun c => ?_)
  · rw [if_pos c] at q; exact q _ S
  rw [if_neg c] at q
  refine eq_ret (w := z) rfl (fun c => ?_) (fun c => ?_)
  · rw [if_pos c] at q; exact q _ S
  rw [if_neg c] at q
  refine eq_ret (w := z) rfl (fun c => ?_) (fun c => ?_)
  · rw [if_pos c] at q; exact q _ S
  rw [if_neg c] at q
  refine eq_ret (w := z) rfl (fun c => ?_) (fun c => ?_)
  · rw [if_pos c] at q; exact q _ S
  rw [if_neg c] at q
  exact q _ S
abbrev n_is_kind_word : List Str := ["word"]
theorem sc_is_kind_word : FnScope n_is_kind_word ["word"] (defScope s_is_kind_word) := ⟨rfl, rfl, rfl, by decide +kernel, rfl, by decide +kernel, by decide +kernel⟩
theorem ok_is_kind_word (D : Def K mg "is_kind_word" s_is_kind_word ["word"]) : Good P w K mg base 1 "is_kind_word" ["word"] spKindW := by
  refine D.ok sc_is_kind_word (fun vs H Q E h => ?_) (fun cdv A outer s H vs Q E f hr h => ?_)
  · obtain ⟨z, rfl, _⟩ := h
    rfl
  obtain ⟨z, rfl, q⟩ := h
  refine ⟨_, (pss_one (ps_ret (pe_cmpR op_in_seq (pv 0) (pe_tup (pa_cons pe_str (pa_cons pe_str (pa_cons pe_str (pa_cons pe_str (pa_cons pe_str pa_nil)))))) (by rfl)))), ?_⟩
  exact in_val (ws := kwdKind) (w := z) rfl (fun _ _ h => h) (by decide) q
abbrev n_is_kind_form : List Str := ["word"]
theorem sc_is_kind_form : FnScope n_is_kind_form ["word"] (defScope s_is_kind_form) := ⟨rfl, rfl, rfl, by decide +kernel, rfl, by decide +kernel, by decide +kernel⟩
theorem ok_is_kind_form (D : Def K mg "is_kind_form" s_is_kind_form ["word"]) : Good P w K mg base 1 "is_kind_form" ["word"] spKindW := by
  refine D.ok sc_is_kind_form (fun vs H Q E h => ?_) (fun cdv A outer s H vs Q E f hr h => ?_)
  · obtain ⟨z, rfl, _⟩ := h
    rfl
  obtain ⟨z, rfl, q⟩ := h
  refine ⟨_, (pss_one (ps_ret (pe_cmpR op_in_seq (pv 0) (pe_tup (pa_cons pe_str (pa_cons pe_str (pa_cons pe_str (pa_cons pe_str (pa_cons pe_str pa_nil)))))) (by rfl)))), ?_⟩
  exact in_val (ws := kwdKind) (w := z) rfl (fun _ _ h => h) (by decide) q
abbrev n_names_one : List Str := ["word"]
theorem sc_names_one : FnScope n_names_one ["word"] (defScope s_names_one) := ⟨rfl, rfl, rfl, by decide +kernel, rfl, by decide +kernel, by decide +kernel⟩
theorem ok_names_one (D : Def K mg "names_one" s_names_one ["word"]) : Good P w K mg base 1 "names_one" ["word"] spBinds := by
  refine D.ok sc_names_one (fun vs H Q E h => ?_) (fun cdv A outer s H vs Q E f hr h => ?_)
  · obtain ⟨z, rfl, _⟩ := h
    rfl
  obtain ⟨z, rfl, q⟩ := h
  refine ⟨_, (pss_one (ps_ret (pe_cmpR op_in_seq (pv 0) (pe_tup (pa_cons pe_str (pa_cons pe_str (pa_cons pe_str (pa_cons pe_str (pa_cons pe_str pa_nil)))))) (by rfl)))), ?_⟩
  exact in_val (ws := kwdBind) (w := z) rfl (fun _ _ h => h) (by decide) q
abbrev n_bound_part : List Str := ["word"]
theorem sc_bound_part : FnScope n_bound_part ["word"] (defScope s_bound_part) := ⟨rfl, rfl, rfl, by decide +kernel, rfl, by decide +kernel, by decide +kernel⟩
theorem ok_bound_part (D : Def K mg "bound_part" s_bound_part ["word"]) : Good P w K mg base 1 "bound_part" ["word"] spBound := by
  refine D.ok sc_bound_part (fun vs H Q E h => ?_) (fun cdv A outer s H vs Q E f hr h => ?_)
  · obtain ⟨z, rfl, _⟩ := h
    rfl
  obtain ⟨z, rfl, q⟩ := h
  refine ⟨_, (pss_cons (ps_if (pt_cmpR op_in_seq (pv 0) (pe_tup (pa_cons pe_str (pa_cons pe_str pa_nil))) (by rfl)) (pss_one (ps_ret pe_int)) pss_nil)
    (pss_one (ps_ret pe_int))), ?_⟩
  unfold bpS at q
  refine in_ret (ws := kwdB0) (w := z) rfl (fun _ _ h => h) (by decide) (fun c H1 s1 => ?_) (fun c H1 s1 => ?_)
  · rw [if_pos c] at q; exact q _ s1
  · rw [if_neg c] at q; exact q _ s1
abbrev n_parts_of : List Str := ["word"]
theorem sc_parts_of : FnScope n_parts_of ["word"] (defScope s_parts_of) := ⟨rfl, rfl, rfl, by decide +kernel, rfl, by decide +kernel, by decide +kernel⟩
theorem ok_parts_of (D : Def K mg "parts_of" s_parts_of ["word"]) : Good P w K mg base 1 "parts_of" ["word"] spParts := by
  refine D.ok sc_parts_of (fun vs H Q E h => ?_) (fun cdv A outer s H vs Q E f hr h => ?_)
  · obtain ⟨z, rfl, _⟩ := h
    rfl
  obtain ⟨z, rfl, q⟩ := h
  refine ⟨_, (pss_cons (ps_if (pt_cmpR op_in_seq (pv 0) (pe_tup (pa_cons pe_str (pa_cons pe_str pa_nil))) (by rfl)) (pss_one (ps_ret pe_str)) pss_nil)
    (pss_cons (ps_if (pt_cmpR op_in_seq (pv 0) (pe_tup (pa_cons pe_str (pa_cons pe_str (pa_cons pe_str pa_nil)))) (by rfl)) (pss_one (ps_ret pe_str)) pss_nil)
    (pss_cons (ps_if (pt_cmpR op_in_seq (pv 0) (pe_tup (pa_cons pe_str (pa_cons pe_str (pa_cons pe_str pa_nil)))) (by rfl)) (pss_one (ps_ret pe_str)) pss_nil)
    (pss_cons (ps_if (pt_cmpR op_in_seq (pv 0) (pe_tup (pa_cons pe_str (pa_cons pe_str (pa_cons pe_str pa_nil)))) (by rfl)) (pss_one (ps_ret pe_str)) pss_nil)
    (pss_cons (ps_if (pt_cmpR op_eq (pv 0) pe_str (nomark _)) (pss_one (ps_ret pe_str)) pss_nil)
    (pss_cons (ps_if (pt_cmpR op_eq (pv 0) pe_str (nomark _)) (pss_one (ps_ret pe_str)) pss_nil)
    (pss_one (ps_ret pe_str)))))))), ?_⟩
  unfold partsS at q
  refine in_ret (ws := kwdKK) (w := z) rfl (fun _ _ h => h) (by decide) (fun c H1 s1 => ?_) (fun c H1 s1 => ?_)
  · rw [if_pos c] at q; exact q _ s1
  rw [if_neg c] at q
  refine in_ret (ws := kwdKT) (w := z) rfl (fun _ _ h => h) (by decide) (fun c H2 s2 => ?_) (fun c H2 s2 => ?_)
  · rw [if_pos c] at q; exact q _ (s1.trans s2)
  rw [if_neg c] at q
  refine in_ret (ws := kwdKTT) (w := z) rfl (fun _ _ h => h) (by decide) (fun c H3 s3 => ?_) (fun c H3 s3 => ?_)
  · rw [if_pos c] at q; exact q _ ((s1.trans s2).trans s3)
  rw [if_neg c] at q
  refine in_ret (ws := kwdT) (w := z) rfl (fun _ _ h => h) (by decide) (fun c H4 s4 => ?_) (fun c H4 s4 => ?_)
  · rw [if_pos c] at q; exact q _ (((s1.trans s2).trans s3).trans s4)
  rw [if_neg c] at q
  have S := ((s1.trans s2).trans s3).trans s4
  refine eq_ret (w := z) rfl (fun c => ?_) (fun c => ?_)
  · rw [if_pos c] at q; exact q _ S
  rw [if_neg c] at q
  refine eq_ret (w := z) rfl (fun c => ?_) (fun c => ?_)
  · rw [if_pos c] at q; exact q _ S
  rw [if_neg c] at q
  exact q _ S
abbrev n_is_name : List Str := ["thing", "sign"]
theorem sc_is_name : FnScope n_is_name ["thing"] (defScope s_is_name) := ⟨rfl, rfl, rfl, by decide +kernel, rfl, by decide +kernel, by decide +kernel⟩
theorem ok_is_name (D : Def K mg "is_name" s_is_name ["thing"]) (Z : Blt mg) (cL : ∃ t, mg "LETTERS_things" = some (.str letters t)) (G_shape_of : Good P w K mg base 1 "shape_of" ["word"] spShape) : Good P w K mg base 2 "is_name" ["thing"] spName := by
  obtain ⟨tL, m_LETTERS_things⟩ := cL
  refine D.ok sc_is_name (fun vs H Q E h => ?_) (fun cdv A outer s H vs Q E f hr h => ?_)
  · obtain ⟨z, rfl, _⟩ := h
    rfl
  obtain ⟨z, rfl, hz, q⟩ := h
  refine ⟨_, (pss_cons (ps_if (PW.pt (pw_or (pt_not (pt_val (pe_callB call_isi (by rfl) Z.isinstance (by decide +kernel) (pa_cons (pv 0) (pa_cons (pe_bltn (v := .ty "str") (by rfl) Z.str (by decide +kernel) rfl) pa_nil))))) (pw_or (pt_cmpR op_lt (pe_callB call_len_str (by rfl) Z.len (by decide +kernel) (pa_cons (pv 0) pa_nil)) pe_int (nomark _)) (pw_or1 (pt_cmpR op_gt (pe_callB call_len_str (by rfl) Z.len (by decide +kernel) (pa_cons (pv 0) pa_nil)) pe_int (nomark _)))))) (pss_one (ps_ret pe_bl)) pss_nil)
    (pss_one (ps_ret (pe_and (pe_callB (cr_all rfl) (by rfl) Z.all (by decide +kernel) (pa_cons (pe_lc (own := [("sign", 1)]) (g := gName 1) (tt := tYes) rfl sc_is_name.nd (pi_str (pv 0)) (blkOk_by (N := n_is_name) (sc := defScope s_is_name) (by decide +kernel)) (fun _ _ _ _ _ => pg_name (i := 1) sc_is_name.nd rfl (Or.inl rfl)) (fun _ _ _ _ _ => pts_nil) (fun _ _ _ _ _ => (pe_cmpR op_in_sign (pv 1) (pe_glob (v := .str letters) (by rfl) m_LETTERS_things ⟨_, rfl⟩) (by rfl)))) pa_nil)) (pe_one (pe_cmpR op_isN (gcall G_shape_of (hr.mono (by omega)) (pa_cons (pv 0) pa_nil)) pe_non (nomark _))))))), ?_⟩
  refine ⟨_, rfl, _, _, _, _, true, rfl, .ty "str", .base (.str _), kit_ty (by decide +kernel), _, rfl, iteFc rfl ?_⟩
  refine ⟨_, rfl, z, rfl, smallN hz, _, _, rfl, rfl, _, rfl, ite2 (fun c => ?_) (fun c => ?_)⟩
  · have c1 := of_decide_eq_true c
    refine iteT ?_
    have e : nameS z = false := by
      unfold nameS
      rw [decide_eq_false (by omega)]
      rfl
    rw [e] at q
    exact q _ (Same.refl _)
  refine ⟨_, rfl, z, rfl, smallN hz, _, _, rfl, rfl, _, rfl, ite2 (fun c2 => ?_) (fun c2 => ?_)⟩
  · have c3 := of_decide_eq_true c2
    have e : nameS z = false := by
      unfold nameS
      rw [decide_eq_false (show ¬ z.length ≤ 12 by omega), Bool.false_and, Bool.and_false]
    rw [e] at q
    exact q _ (Same.refl _)
  have h1 : 1 ≤ z.length := by
    have := of_decide_eq_false (Bool.eq_false_iff.mpr c)
    omega
  have h2 : z.length ≤ 12 := by
    have := of_decide_eq_false (Bool.eq_false_iff.mpr c2)
    omega
  refine ⟨_, rfl, z, rfl, fun Da hD => lc_it (walk_str (z := z)) (fun i H' => Same H H' ∧ H' Da = some (.lst (((TL.tl z).take i).map fun c => V.bl (decide (c ∈ TL.tl letters))))) ⟨same_new hD _, by rw [upd_same]; rfl⟩ (fun _ _ _ _ => trivial) ?_ ?_⟩
  · rintro i x H1 H2 hi ⟨s1, e1⟩ ⟨rfl, c, hc, rfl⟩
    refine ⟨rfl, _, rfl, c, letters, rfl, rfl, _, e1, ?_, ?_⟩
    · rw [List.length_map]
      have h3 : z.cps.size ≤ 12 := h2
      exact smallLt (Nat.le_trans (List.length_take_le _ _) (by omega))
    · refine ⟨fun b o hb => ?_, ?_⟩
      · have nb : b ≠ Da := ne_of_none hb hD
        rw [upd_ne nb]
        exact s1 b o hb
      · rw [upd_same]
        have hc2 : (TL.tl z)[i]? = some c := by rw [Array.getElem?_toList]; exact hc
        rw [List.take_add_one, hc2, List.map_append]
        rfl
  · rintro H1 ⟨s1, e1⟩
    have e2 : (TL.tl z).take z.cps.size = TL.tl z := List.take_of_length_le (by rw [Array.length_toList]; exact Nat.le_refl _)
    rw [e2] at e1
    have e3 : ((TL.tl z).map fun c => V.bl (decide (c ∈ TL.tl letters))) = ((TL.tl z).map fun c => decide (c ∈ TL.tl letters)).map V.bl := by rw [List.map_map]; rfl
    rw [e3] at e1
    refine ⟨Da, _, rfl, SqL.of e1, _, rfl, ?_⟩
    have e4 : (((TL.tl z).map fun c => decide (c ∈ TL.tl letters)).all id) = (TL.tl z).all fun c => decide (c ∈ TL.tl letters) := by rw [List.all_map]; rfl
    rw [e4]
    refine ite2 (fun c3 => ?_) (fun c3 => ?_)
    · refine ⟨_, rfl, z, rfl, fun H2 s2 => ⟨rfl, ?_⟩⟩
      have e : nameS z = decide (oV (shapeS z) = V.non) := by
        unfold nameS
        rw [decide_eq_true h1, decide_eq_true h2, c3]
        cases shapeS z <;> rfl
      rw [e] at q
      exact q _ (s1.trans s2)
    · have e : nameS z = false := by
        unfold nameS
        rw [Bool.eq_false_iff.mpr c3, Bool.false_and, Bool.and_false, Bool.and_false]
      rw [e] at q
      exact q _ s1
/-- a word as a thing -/
def b2i1 (b : Bool) : Int := if b then 1 else 0
def spKnots : Sp := fun vs H Q _ => ∃ (a : Addr) (z : Str), vs = [.ref a, .str "t", .int 40] ∧ H a = some (.tup [.str "name", .str z]) ∧ z.length ≤ 1000000 ∧ ∀ H', Same H H' → Q (.int (b2i1 (nameS z))) H'
def spTerm : Sp := fun vs H Q _ => ∃ (a : Addr) (z : Str), vs = [.ref a] ∧ H a = some (.tup [.str "name", .str z]) ∧ z.length ≤ 1000000 ∧ ∀ H', Same H H' → Q (.bl (nameS z)) H'
theorem shape_name : shapeS ("name" : Str) = some "w" := by decide +kernel
abbrev n_knots_if : List Str := ["thing", "want", "left", "shape", "total", "place", "part", "many"]
theorem sc_knots_if : FnScope n_knots_if ["thing", "want", "left"] (defScope s_knots_if) := ⟨rfl, rfl, rfl, by decide +kernel, rfl, by decide +kernel, by decide +kernel⟩
theorem ok_knots_if (D : Def K mg "knots_if" s_knots_if ["thing", "want", "left"]) (Z : Blt mg) (cM : ∃ t, mg "MOST_KNOTS_things" = some (.int 600 t)) (G_shape_of : Good P w K mg base 1 "shape_of" ["word"] spShape)
    (G_is_kind_word : Good P w K mg base 1 "is_kind_word" ["word"] spKindW) (G_is_name : Good P w K mg base 2 "is_name" ["thing"] spName) : Good P w K mg base 3 "knots_if" ["thing", "want", "left"] spKnots := by
  obtain ⟨tM, m_MOST_KNOTS_things⟩ := cM
  refine D.ok sc_knots_if (fun vs H Q E h => ?_) (fun cdv A outer s H vs Q E f hr h => ?_)
  · obtain ⟨a, z, rfl, _⟩ := h
    rfl
  obtain ⟨a, z, rfl, ha, hz, q⟩ := h
  refine ⟨_, (pss_cons (ps_if (PW.pt (pw_or (pt_cmpR op_eq (pv 2) pe_int (nomark _)) (pw_or (pt_not (pt_val (pe_callB call_isi (by rfl) Z.isinstance (by decide +kernel) (pa_cons (pv 0) (pa_cons (pe_bltn (v := .ty "tuple") (by rfl) Z.tuple (by decide +kernel) rfl) pa_nil))))) (pw_or (pt_cmpR op_eq (pe_callB call_len_seq (by rfl) Z.len (by decide +kernel) (pa_cons (pv 0) pa_nil)) pe_int (nomark _)) (pw_or1 (pt_not (pt_val (pe_callB call_isi (by rfl) Z.isinstance (by decide +kernel) (pa_cons (pe_ix ix_tup (pv 0) pe_int (fun _ _ => rfl)) (pa_cons (pe_bltn (v := .ty "str") (by rfl) Z.str (by decide +kernel) rfl) pa_nil)))))))))) (pss_one (ps_ret pe_int)) pss_nil)
    (pss_cons (ps_set (i := 3) sc_knots_if.nd rfl (Or.inl rfl) (gcall G_shape_of (hr.mono (by omega)) (pa_cons (pe_ix ix_tup (pv 0) pe_int (fun _ _ => rfl)) pa_nil)))
    (pss_cons (ps_if (PW.pt (pw_or (pt_cmpR op_isN (pv 3) pe_non (nomark _)) (pw_or (pt_cmpR op_ne (pe_callB call_len_seq (by rfl) Z.len (by decide +kernel) (pa_cons (pv 0) pa_nil)) (pe_op op_add (pe_callB call_len_str (by rfl) Z.len (by decide +kernel) (pa_cons (pv 3) pa_nil)) pe_int) (nomark _)) (pw_or1 (pt_cmpR op_ne (gcall G_is_kind_word (hr.mono (by omega)) (pa_cons (pe_ix ix_tup (pv 0) pe_int (fun _ _ => rfl)) pa_nil)) (pe_cmpR op_eq (pv 1) pe_str (nomark _)) (nomark _)))))) (pss_one (ps_ret pe_int)) pss_nil)
    (pss_cons (ps_set (i := 4) sc_knots_if.nd rfl (Or.inl rfl) pe_int)
    (pss_cons (ps_for PassesOwn.never rfl (pi_range1 (by rfl) Z.range (pa_cons (pe_callB call_len_str (by rfl) Z.len (by decide +kernel) (pa_cons (pv 3) pa_nil)) pa_nil)) (pg_name (i := 5) sc_knots_if.nd rfl (Or.inl rfl)) (pss_cons (ps_set (i := 6) sc_knots_if.nd rfl (Or.inl rfl) (pe_ix ix_tup (pv 0) (pe_op op_add (pv 5) pe_int) (fun _ _ => rfl)))
      (pss_cons (ps_set (i := 7) sc_knots_if.nd rfl (Or.inl rfl) pe_int)
      (pss_cons (ps_if (PW.pt (pw_or (PW.pt (pw_and (pt_cmpR op_eq (pe_ix ix_str (pv 3) (pv 5) (fun _ _ => rfl)) pe_str (nomark _)) (pw_and1 (pt_not pt_never)))) (pw_or1 (PW.pt (pw_and (pt_cmpR op_eq (pe_ix ix_str (pv 3) (pv 5) (fun _ _ => rfl)) pe_str (nomark _)) (pw_and1 (pt_not (pt_val (gcall G_is_name (hr.mono (by omega)) (pa_cons (pv 6) pa_nil)))))))))) (pss_one (ps_ret pe_int)) pss_nil)
      (pss_cons (ps_if (pt_cmpR op_in_sign (pe_ix ix_str (pv 3) (pv 5) (fun _ _ => rfl)) pe_str (by rfl)) pss_never pss_nil)
      (pss_cons (ps_set (i := 4) sc_knots_if.nd rfl (Or.inl rfl) (pe_op op_add (pv 4) (pv 7)))
      (pss_one (ps_if (pt_cmpR op_gt (pv 4) (pe_glob (v := .int 600) (by rfl) m_MOST_KNOTS_things ⟨_, rfl⟩) (nomark _)) (pss_one (ps_ret pe_int)) pss_nil))))))))
    (pss_one (ps_ret (pv 4)))))))), ?_⟩
  -- the first test
  refine ⟨_, rfl, rfl, _, rfl, iteFc rfl ?_⟩
  refine ⟨_, rfl, _, _, _, _, true, rfl, .ty "tuple", .base (.tup ha), kit_ty (by decide +kernel), _, rfl, iteFc rfl ?_⟩
  refine ⟨_, rfl, a, _, rfl, .inr (SqT.of ha), rfl, _, rfl, iteFc rfl ?_⟩
  refine ⟨_, rfl, a, _, _, _, rfl, rfl, SqT.of ha, at0, _, _, _, _, true, rfl, .ty "str", .base (.str _), kit_ty (by decide +kernel), _, rfl, iteFc rfl ?_⟩
  -- shape
  refine ⟨_, rfl, a, _, _, _, rfl, rfl, SqT.of ha, at0, "name", rfl, ?_⟩
  rw [shape_name]
  intro H1 s1
  have ha1 := s1 _ _ ha
  refine ⟨_, rfl, rfl, _, rfl, iteFc rfl ?_⟩
  refine ⟨_, rfl, a, _, rfl, .inr (SqT.of ha1), _, rfl, _, rfl, (by decide +kernel), _, _, rfl, rfl, rfl, _, rfl, iteFc (show (!decide (V.int ((2 : Nat) : Int) = V.int ((("w" : Str).length : Int) + 1))) = false by decide +kernel) ?_⟩
  refine ⟨_, rfl, a, _, _, _, rfl, rfl, SqT.of ha1, at0, "name", rfl, fun H2 s2 => ⟨_, rfl, rfl, rfl, _, rfl, iteFc (by decide +kernel) ?_⟩⟩
  have ha2 := s2 _ _ ha1
  have S2 := s1.trans s2
  -- the loop
  refine ⟨_, rfl, "w", rfl, (by decide +kernel), _, rfl, (by decide +kernel), (by decide +kernel), for_range (lo := 0) (n := _) (fun i σ H' => Same H2 H' ∧ ((i = 0 ∧ σ = [some (.ref a), some (.str "t"), some (.int 40), some (.str "w"), some (.int 1), none, none, none]) ∨
      (nameS z = true ∧ ∃ x5 x6 x7, σ = [some (.ref a), some (.str "t"), some (.int 40), some (.str "w"), some (.int 1), x5, x6, x7]))) ⟨Same.refl _, .inl ⟨rfl, rfl⟩⟩ ?_ ?_⟩
  · rintro i σ H3 hi ⟨s3, h3⟩
    have hi2 : i < 1 := hi
    have hi0 : i = 0 := by omega
    subst hi0
    have ha3 := s3 _ _ ha2
    have hσ : ∃ x5 x6 x7, σ = [some (.ref a), some (.str "t"), some (.int 40), some (.str "w"), some (.int 1), x5, x6, x7] := by
      rcases h3 with ⟨_, h3⟩ | ⟨_, h3⟩
      · exact ⟨_, _, _, h3⟩
      · exact h3
    obtain ⟨x5, x6, x7, rfl⟩ := hσ
    refine ⟨_, rfl, _, rfl, _, _, rfl, rfl, a, _, _, _, rfl, rfl, SqT.of ha3, at1, ?_⟩
    refine ⟨_, rfl, _, rfl, _, _, 119, rfl, rfl, (by decide +kernel), (by decide +kernel), rfl, _, rfl, iteFc (by decide +kernel) (iteFc rfl ?_)⟩
    refine ⟨_, rfl, _, rfl, _, _, 119, rfl, rfl, (by decide +kernel), (by decide +kernel), rfl, _, rfl, iteTc (by decide +kernel) ?_⟩
    refine ⟨_, rfl, z, rfl, hz, fun H4 s4 => ⟨_, rfl, ?_⟩⟩
    cases e : nameS z with
    | false =>
      rw [e] at q
      exact iteT (q _ ((S2.trans s3).trans s4))
    | true =>
      refine iteFc rfl ?_
      refine ⟨_, rfl, _, rfl, _, _, 119, rfl, rfl, (by decide +kernel), (by decide +kernel), 119, "kt", rfl, rfl, _, rfl, iteFc (by decide +kernel) ?_⟩
      refine ⟨_, rfl, _, rfl, _, _, rfl, rfl, ?_⟩
      refine ⟨_, rfl, _, _, rfl, rfl, _, rfl, iteFc (by decide +kernel) ?_⟩
      exact ⟨s3.trans s4, .inr ⟨rfl, _, _, _, rfl⟩⟩
  · rintro σ H3 ⟨s3, h3⟩
    rcases h3 with ⟨h3, _⟩ | ⟨e, x5, x6, x7, rfl⟩
    · cases h3
    · rw [e] at q
      exact ⟨_, rfl, q _ (S2.trans s3)⟩
abbrev n_is_term : List Str := ["thing"]
theorem sc_is_term : FnScope n_is_term ["thing"] (defScope s_is_term) := ⟨rfl, rfl, rfl, by decide +kernel, rfl, by decide +kernel, by decide +kernel⟩
theorem ok_is_term (D : Def K mg "is_term" s_is_term ["thing"]) (cD : ∃ t, mg "DEEPEST_things" = some (.int 40 t)) (G_knots_if : Good P w K mg base 3 "knots_if" ["thing", "want", "left"] spKnots) : Good P w K mg base 4 "is_term" ["thing"] spTerm := by
  obtain ⟨tD, m_DEEPEST_things⟩ := cD
  refine D.ok sc_is_term (fun vs H Q E h => ?_) (fun cdv A outer s H vs Q E f hr h => ?_)
  · obtain ⟨a, z, rfl, _⟩ := h
    rfl
  obtain ⟨a, z, rfl, ha, hz, q⟩ := h
  refine ⟨_, (pss_one (ps_ret (pe_cmpR op_gt (gcall G_knots_if (hr.mono (by omega)) (pa_cons (pv 0) (pa_cons pe_str (pa_cons (pe_glob (v := .int 40) (by rfl) m_DEEPEST_things ⟨_, rfl⟩) pa_nil)))) pe_int (nomark _)))), ?_⟩
  refine ⟨_, rfl, a, z, rfl, ha, hz, fun H1 s1 => ⟨_, _, rfl, rfl, ?_⟩⟩
  have e : nameS z = decide ((0 : Int) < b2i1 (nameS z)) := by cases nameS z <;> rfl
  rw [e] at q
  exact q _ s1
abbrev n_is_free_word : List Str := ["word"]
theorem sc_is_free_word : FnScope n_is_free_word ["word"] (defScope s_is_free_word) := ⟨rfl, rfl, rfl, by decide +kernel, rfl, by decide +kernel, by decide +kernel⟩
theorem ok_is_free_word (D : Def K mg "is_free_word" s_is_free_word ["word"]) (G_is_term : Good P w K mg base 4 "is_term" ["thing"] spTerm) : Good P w K mg base 5 "is_free_word" ["word"] spName := by
  refine D.ok sc_is_free_word (fun vs H Q E h => ?_) (fun cdv A outer s H vs Q E f hr h => ?_)
  · obtain ⟨z, rfl, _⟩ := h
    rfl
  obtain ⟨z, rfl, hz, q⟩ := h
  refine ⟨_, (pss_one (ps_ret (gcall G_is_term (hr.mono (by omega)) (pa_cons (pe_tup (pa_cons pe_str (pa_cons (pv 0) pa_nil))) pa_nil)))), ?_⟩
  exact ⟨_, rfl, smallN (by show 2 ≤ 1000000; decide), fun p hp => ⟨p, z, rfl, upd_same, hz, fun H1 s1 => q _ ((same_new hp _).trans s1)⟩⟩
end
end KP
set_option Elab.async false
set_option linter.all false
set_option maxRecDepth 100000
set_option maxHeartbeats 4000000
/-! KpKids: children, free variables, names of a book. -/
namespace KP
open PySem PySem.Spec PyProof.Rows L2
/-! ### plain -/
def nodeOk : T → Prop
  | .nd w _ => w ≠ "var" ∧ w ≠ "name"
  | _ => True
theorem nodeOk_of {t : T} {b : Bool} (h : wf b t) : nodeOk t := by
  cases t with
  | nd w ks =>
    unfold wf at h
    obtain ⟨_, l, hl, _⟩ := h
    have F := form_of hl
    exact ⟨F.nv, F.nn⟩
  | _ => trivial
def bpT : T → Nat
  | .nd w _ => bpN w
  | _ => 9
theorem cut1 (x : V) (vs : List V) : cutV (x :: vs) (some 1) none = vs := by
  unfold cutV
  have e : HT.sIx (x :: vs).length 0 (some ((1 : Nat) : Int)) = 1 := by
    rw [HT.sIx_nat, List.length_cons]
    omega
  have e2 : HT.sIx (x :: vs).length (x :: vs).length none = (x :: vs).length := rfl
  have e1 : HT.sIx (x :: vs).length 0 (some (1 : Int)) = 1 := e
  rw [e1, e2]
  show vs.take ((x :: vs).length - 1) = vs
  rw [List.length_cons]
  exact List.take_of_length_le (Nat.le_refl _)
theorem cut1_ok (x : V) (vs : List V) : ¬ (HT.sIx (x :: vs).length 0 (some 1) = 0 ∧ HT.sIx (x :: vs).length (x :: vs).length none = (x :: vs).length) := by
  have e : HT.sIx (x :: vs).length 0 (some ((1 : Nat) : Int)) = 1 := by
    rw [HT.sIx_nat, List.length_cons]
    omega
  have e1 : HT.sIx (x :: vs).length 0 (some (1 : Int)) = 1 := e
  rw [e1]
  omega
/-- thing[0] == word, where it stands -/
theorem hd_eq {K : PySem.W.Frag} {σ : L2.St} {H : Hp} {a : Addr} {h z : Str} {xs : List V} {i : Nat} {Q : VK} (hv : σ[i]? = some (some (V.ref a))) (ha : H a = some (.tup (.str h :: xs))) (q : Q (.bl (decide (h = z))) H) :
    tOp rEq (tOp (rIxT K) (tVar i) (tC (.int 0))) (tC (.str z)) σ H Q := by
  refine ⟨_, hv, a, _, _, _, rfl, rfl, SqT.of ha, at0, rfl, ?_⟩
  have e : decide (V.str h = V.str z) = decide (h = z) := by
    by_cases c : h = z
    · rw [decide_eq_true c, decide_eq_true (congrArg V.str c)]
    · rw [decide_eq_false c, decide_eq_false (fun e => c (V.str.inj e))]
  rw [e]
  exact q
theorem bp_all : bindS ("all" : Str) = true ∧ bpN "all" = 1 ∧ shapeL "all" = some [true, true] := by decide +kernel
theorem bp_some : bindS ("some" : Str) = true ∧ bpN "some" = 1 ∧ shapeL "some" = some [true, true] := by decide +kernel
theorem bp_fun : bindS ("fun" : Str) = true ∧ bpN "fun" = 1 ∧ shapeL "fun" = some [true, false] := by decide +kernel
theorem bp_rec : bpN "rec" = 0 ∧ shapeL "rec" = some [true, false, false, false] := by decide +kernel
theorem bp_carry : bpN "carry" = 0 ∧ shapeL "carry" = some [true, false, false] := by decide +kernel
theorem bp_none {w : Str} (h1 : w ∉ (["all", "some", "fun"] : List Str)) (h2 : w ≠ "rec") (h3 : w ≠ "carry") : bpN w = 9 := by
  unfold bpN bindS
  rw [if_neg]
  intro q
  have q2 := of_decide_eq_true q
  simp only [kwdBind, List.mem_cons, List.not_mem_nil, or_false] at q2 h1
  rcases q2 with q | q | q | q | q
  · exact h1 (.inl q)
  · exact h1 (.inr (.inl q))
  · exact h1 (.inr (.inr q))
  · exact h2 q
  · exact h3 q
theorem four_le {w : Str} {l : List Bool} (h : shapeL w = some l) : l.length ≤ 4 := by
  have q := all16_len w (shapeL_mem h)
  rw [h] at q
  simpa using q
/-- the numbers that say over which children a binder stands -/
structure BindsL (t : T) (bs : List Int) : Prop where
  len : bs.length = (kidsT t).length
  at_ : ∀ i, i < bs.length → bs[i]? = some (if i = bpT t then 1 else 0)
theorem kids_len {w : Str} {ks : List T} {b : Bool} {l : List Bool} (h : wf b (.nd w ks)) (e : shapeL w = some l) : ks.length = l.length := by
  unfold wf at h
  obtain ⟨_, l', hl, hk⟩ := h
  rw [e] at hl
  cases hl
  exact wfL_length hk
theorem binds_two {w : Str} {ks : List T} {b : Bool} (h : wf b (.nd w ks)) (hw : w ∈ (["all", "some", "fun"] : List Str)) : BindsL (.nd w ks) [0, 1] := by
  have hb : bpN w = 1 := by
    simp only [List.mem_cons, List.not_mem_nil, or_false] at hw
    rcases hw with rfl | rfl | rfl
    · exact bp_all.2.1
    · exact bp_some.2.1
    · exact bp_fun.2.1
  have hl : ks.length = 2 := by
    simp only [List.mem_cons, List.not_mem_nil, or_false] at hw
    rcases hw with rfl | rfl | rfl
    · exact kids_len h bp_all.2.2
    · exact kids_len h bp_some.2.2
    · exact kids_len h bp_fun.2.2
  refine ⟨hl.symm, fun i hi => ?_⟩
  show _ = some (if i = bpN w then (1 : Int) else 0)
  rw [hb]
  match i, hi with
  | 0, _ => rfl
  | 1, _ => rfl
theorem binds_rec {ks : List T} {b : Bool} (h : wf b (.nd "rec" ks)) : BindsL (.nd "rec" ks) [1, 0, 0, 0] := by
  refine ⟨(kids_len h bp_rec.2).symm, fun i hi => ?_⟩
  show _ = some (if i = bpN "rec" then (1 : Int) else 0)
  rw [bp_rec.1]
  match i, hi with
  | 0, _ => rfl
  | 1, _ => rfl
  | 2, _ => rfl
  | 3, _ => rfl
theorem binds_carry {ks : List T} {b : Bool} (h : wf b (.nd "carry" ks)) : BindsL (.nd "carry" ks) [1, 0, 0] := by
  refine ⟨(kids_len h bp_carry.2).symm, fun i hi => ?_⟩
  show _ = some (if i = bpN "carry" then (1 : Int) else 0)
  rw [bp_carry.1]
  match i, hi with
  | 0, _ => rfl
  | 1, _ => rfl
  | 2, _ => rfl
theorem binds_rest {t : T} {b : Bool} (h : wf b t) (h1 : hdW t ∉ (["all", "some", "fun"] : List Str)) (h2 : hdW t ≠ "rec") (h3 : hdW t ≠ "carry") : BindsL t (List.replicate (kidsT t).length 0) := by
  refine ⟨List.length_replicate, fun i hi => ?_⟩
  rw [List.length_replicate] at hi
  have hne : i ≠ bpT t := by
    cases t with
    | v k => exact absurd hi (Nat.not_lt_zero _)
    | nm w => exact absurd hi (Nat.not_lt_zero _)
    | nd w ks =>
      show i ≠ bpN w
      rw [bp_none (w := w) h1 h2 h3]
      unfold wf at h
      obtain ⟨_, l, hl, hk⟩ := h
      have e := wfL_length hk
      have e4 := four_le hl
      have hi2 : i < ks.length := hi
      omega
  rw [if_neg hne]
  exact List.getElem?_replicate_of_lt hi
/-! ### the promises -/
def spKids : Sp := fun vs H Q _ => ∃ (t : T) (x : V), vs = [x] ∧ At H t x ∧ nodeOk t ∧ ∀ (l : Addr) (us : List V) (H' : Hp), Same H H' → H l = none → H' l = some (.lst us) → AtL H' (kidsT t) us → Q (.ref l) H'
def spBindsL : Sp := fun vs H Q _ => ∃ (t : T) (x : V) (b : Bool), vs = [x] ∧ At H t x ∧ wf b t ∧ ∀ (l : Addr) (bs : List Int) (H' : Hp), Same H H' → H l = none → H' l = some (.lst (bs.map V.int)) → BindsL t bs → Q (.ref l) H'
section
variable {P : Program} {w : World} {K : PySem.W.Frag} {mg : Str → Option Value} {base : Heap}
abbrev n_kids_of : List Str := ["thing"]
theorem sc_kids_of : FnScope n_kids_of ["thing"] (defScope s_kids_of) := ⟨rfl, rfl, rfl, by decide +kernel, rfl, by decide +kernel, by decide +kernel⟩
theorem ok_kids_of (D : Def K mg "kids_of" s_kids_of ["thing"]) (Z : Blt mg) : Good P w K mg base 1 "kids_of" ["thing"] spKids := by
  refine D.ok sc_kids_of (fun vs H Q E h => ?_) (fun cdv A outer s H vs Q E f hr h => ?_)
  · obtain ⟨t, x, rfl, _⟩ := h
    rfl
  obtain ⟨t, x, rfl, hx, hn, q⟩ := h
  obtain ⟨a, xs, rfl, ha⟩ := hx.tup
  refine ⟨_, (pss_cons (ps_if (PW.pt (pw_or (pt_cmpR op_eq (pe_ix ix_tup (pv 0) pe_int (fun _ _ => rfl)) pe_str (nomark _)) (pw_or1 (pt_cmpR op_eq (pe_ix ix_tup (pv 0) pe_int (fun _ _ => rfl)) pe_str (nomark _))))) (pss_one (ps_ret (pe_lst pa_nil))) pss_nil)
    (pss_one (ps_ret (pe_callTy call_list_of (by rfl) Z.list (by decide +kernel) (pa_cons (pe_slice sl_tup (pv 0) (po_some pe_int) po_none) pa_nil))))), ?_⟩
  have isnil : kidsT t = [] → ∀ D' : Ends, D'.rt = Q → tRet (tLst tNil) D' (L2.start n_kids_of [V.ref a]) H := by
    intro e0 D' eD
    show 0 ≤ sizeLine ∧ ∀ p, H p = none → D'.rt (.ref p) (upd H p (.lst []))
    rw [eD]
    refine ⟨smallN (by decide), fun l hl => q l [] _ (same_new hl _) hl upd_same ?_⟩
    rw [e0]
    exact .nil
  cases t with
  | v k => exact hd_eq (i := 0) rfl ha ⟨_, rfl, iteTc rfl (isnil rfl _ rfl)⟩
  | nm z => exact hd_eq (i := 0) rfl ha ⟨_, rfl, iteFc (show decide (("name" : Str) = "var") = false by decide +kernel) (hd_eq (i := 0) rfl ha ⟨_, rfl, iteTc rfl (isnil rfl _ rfl)⟩)⟩
  | nd z ks =>
    refine hd_eq (i := 0) rfl ha ⟨_, rfl, iteFc (decide_eq_false hn.1) (hd_eq (i := 0) rfl ha ⟨_, rfl, iteFc (decide_eq_false hn.2) ?_⟩)⟩
    obtain ⟨a', vs, e, ha', hk⟩ := hx.nod
    cases e
    refine ⟨_, rfl, 1, rfl, a, _, rfl, SqT.of ha', cut1_ok _ _, fun p hp => ?_⟩
    rw [cut1]
    have s1 : Same H (upd H p (.tup vs)) := same_new hp _
    refine ⟨p, _, rfl, .inr (SqT.of upd_same), fun l hl => ?_⟩
    have s2 := s1.trans (same_new hl (.lst vs))
    exact q l vs _ s2 (s1.free hl) upd_same (hk.mono s2.tk)
abbrev n_binds_of : List Str := ["thing"]
theorem sc_binds_of : FnScope n_binds_of ["thing"] (defScope s_binds_of) := ⟨rfl, rfl, rfl, by decide +kernel, rfl, by decide +kernel, by decide +kernel⟩
theorem ok_binds_of (D : Def K mg "binds_of" s_binds_of ["thing"]) (Z : Blt mg) (G_kids_of : Good P w K mg base 1 "kids_of" ["thing"] spKids) : Good P w K mg base 2 "binds_of" ["thing"] spBindsL := by
  refine D.ok sc_binds_of (fun vs H Q E h => ?_) (fun cdv A outer s H vs Q E f hr h => ?_)
  · obtain ⟨t, x, b, rfl, _⟩ := h
    rfl
  obtain ⟨t, x, b, rfl, hx, hw, q⟩ := h
  obtain ⟨a, xs, rfl, ha⟩ := hx.tup
  refine ⟨_, (pss_cons (ps_if (pt_cmpR op_in_seq (pe_ix ix_tup (pv 0) pe_int (fun _ _ => rfl)) (pe_tup (pa_cons pe_str (pa_cons pe_str (pa_cons pe_str pa_nil)))) (by rfl)) (pss_one (ps_ret (pe_lst (pa_cons pe_int (pa_cons pe_int pa_nil))))) pss_nil)
    (pss_cons (ps_if (pt_cmpR op_eq (pe_ix ix_tup (pv 0) pe_int (fun _ _ => rfl)) pe_str (nomark _)) (pss_one (ps_ret (pe_lst (pa_cons pe_int (pa_cons pe_int (pa_cons pe_int (pa_cons pe_int pa_nil))))))) pss_nil)
    (pss_cons (ps_if (pt_cmpR op_eq (pe_ix ix_tup (pv 0) pe_int (fun _ _ => rfl)) pe_str (nomark _)) (pss_one (ps_ret (pe_lst (pa_cons pe_int (pa_cons pe_int (pa_cons pe_int pa_nil)))))) pss_nil)
    (pss_one (ps_ret (pe_op op_rep (pe_lst (pa_cons pe_int pa_nil)) (pe_callB call_len_seq (by rfl) Z.len (by decide +kernel) (pa_cons (gcall G_kids_of (hr.mono (by omega)) (pa_cons (pv 0) pa_nil)) pa_nil)))))))), ?_⟩
  have four : ∀ n : Nat, n ≤ 4 → n ≤ sizeLine := fun n h => smallN (by omega)
  refine ⟨_, rfl, a, _, _, _, rfl, rfl, SqT.of ha, at0, smallN (by show 3 ≤ 1000000; decide), fun p hp => rIn_new (ws := ["all", "some", "fun"]) (w := hdW t) ⟨_, rfl, ?_⟩⟩
  have s1 : Same H (upd H p (.tup ((["all", "some", "fun"] : List Str).map V.str))) := same_new hp _
  refine ite2 (fun c => ?_) (fun c => ?_)
  · have c1 := of_decide_eq_true c
    refine ⟨smallN (by show 2 ≤ 1000000; decide), fun l hl => ?_⟩
    cases t with
    | v k => exact absurd (show ("var" : Str) ∈ (["all", "some", "fun"] : List Str) from c1) (by decide +kernel)
    | nm z => exact absurd (show ("name" : Str) ∈ (["all", "some", "fun"] : List Str) from c1) (by decide +kernel)
    | nd z ks => exact q l [0, 1] _ (s1.trans (same_new hl _)) (s1.free hl) upd_same (binds_two hw c1)
  have c1 := of_decide_eq_false (Bool.eq_false_iff.mpr c)
  have ha1 := s1 _ _ ha
  refine hd_eq (i := 0) rfl ha1 ⟨_, rfl, ite2 (fun c2 => ?_) (fun c2 => ?_)⟩
  · have c3 := of_decide_eq_true c2
    refine ⟨smallN (by show 4 ≤ 1000000; decide), fun l hl => ?_⟩
    cases t with
    | v k => exact absurd (show ("var" : Str) = "rec" from c3) (by decide +kernel)
    | nm z => exact absurd (show ("name" : Str) = "rec" from c3) (by decide +kernel)
    | nd z ks =>
      have c4 : z = "rec" := c3
      subst c4
      exact q l [1, 0, 0, 0] _ (s1.trans (same_new hl _)) (s1.free hl) upd_same (binds_rec hw)
  have c3 := of_decide_eq_false (Bool.eq_false_iff.mpr c2)
  refine hd_eq (i := 0) rfl ha1 ⟨_, rfl, ite2 (fun c4 => ?_) (fun c4 => ?_)⟩
  · have c5 := of_decide_eq_true c4
    refine ⟨smallN (by show 3 ≤ 1000000; decide), fun l hl => ?_⟩
    cases t with
    | v k => exact absurd (show ("var" : Str) = "carry" from c5) (by decide +kernel)
    | nm z => exact absurd (show ("name" : Str) = "carry" from c5) (by decide +kernel)
    | nd z ks =>
      have c6 : z = "carry" := c5
      subst c6
      exact q l [1, 0, 0] _ (s1.trans (same_new hl _)) (s1.free hl) upd_same (binds_carry hw)
  have c5 := of_decide_eq_false (Bool.eq_false_iff.mpr c4)
  -- the zeros
  refine ⟨smallN (by show 1 ≤ 1000000; decide), fun p2 hp2 => ?_⟩
  have s2 := s1.trans (same_new hp2 (.lst [V.int 0]))
  refine ⟨_, rfl, t, _, rfl, hx.mono s2.tk, nodeOk_of hw, fun l us H3 s3 hl3 e3 k3 => ?_⟩
  refine ⟨l, us, rfl, .inl (SqL.of e3), p2, _, [V.int 0], rfl, rfl, s3 _ _ upd_same, ?_⟩
  have hlen : us.length = (kidsT t).length := k3.length
  have h4 : us.length ≤ 4 := by
    cases t with
    | v k => rw [hlen]; exact Nat.zero_le _
    | nm z => rw [hlen]; exact Nat.zero_le _
    | nd z ks =>
      unfold wf at hw
      obtain ⟨_, l, hl, hk⟩ := hw
      have e := wfL_length hk
      have e4 := four_le hl
      rw [hlen]
      show ks.length ≤ 4
      omega
  refine ⟨by omega, by omega, ?_, fun p4 hp4 => ?_⟩
  · show 1 * ((us.length : Int)).toNat ≤ sizeLine
    exact smallN (by omega)
  have S := (s2.trans s3).trans (same_new hp4 (.lst (List.replicate ((us.length : Int)).toNat [V.int 0]).flatten))
  refine q p4 (List.replicate (kidsT t).length 0) _ S ((s2.trans s3).free hp4) ?_ (binds_rest hw c1 c3 c5)
  rw [upd_same]
  have e : (List.replicate ((us.length : Int)).toNat [V.int 0]).flatten = (List.replicate (kidsT t).length (0 : Int)).map V.int := by
    rw [List.flatten_replicate_singleton, List.map_replicate, Int.toNat_natCast, hlen]
  rw [e]
end
end KP
set_option Elab.async false
set_option linter.all false
set_option maxRecDepth 100000
set_option maxHeartbeats 4000000
/-! KpFree: free variables, names of a book. -/
namespace KP
open PySem PySem.Spec PyProof.Rows L2
/-! ### plain -/
/-- keys that are numbers below N, values that are numbers -/
def GoodD (N : Nat) (kvs : List (Key × V)) : Prop := ∀ p ∈ kvs, ∃ i c : Int, p = (Sum.inl i, V.int c) ∧ i < (N : Int)
theorem GoodD.put {N : Nat} {kvs : List (Key × V)} (h : GoodD N kvs) {i : Int} (c : Int) (hi : i < (N : Int)) : GoodD N (putK kvs (Sum.inl i) (.int c)) := by
  intro p hp
  unfold putK at hp
  split at hp
  · obtain ⟨q, hq, e⟩ := List.mem_map.mp hp
    obtain ⟨j, d, e2, hj⟩ := h q hq
    split at e
    · refine ⟨j, c, ?_, hj⟩
      rw [← e, e2]
    · exact ⟨j, d, by rw [← e, e2], hj⟩
  · rcases List.mem_append.mp hp with q | q
    · exact h p q
    · exact ⟨i, c, List.mem_singleton.mp q, hi⟩
theorem GoodD.get {N : Nat} {kvs : List (Key × V)} (h : GoodD N kvs) (k : Key) : ∃ c : Int, (valV kvs k).getD (.int 0) = .int c := by
  unfold valV
  cases e : kvs.find? fun kv => decide (kv.1 = k) with
  | none => exact ⟨0, rfl⟩
  | some p =>
    obtain ⟨i, c, e2, _⟩ := h p (List.mem_of_find?_eq_some e)
    exact ⟨c, by rw [e2]; rfl⟩
/-- the dict of names -/
def dk (f : List Str) : List (Key × V) := f.map fun z => (Sum.inr z, V.bl true)
theorem dk_any (z : Str) : ∀ f : List Str, ((dk f).any fun kv => decide (kv.1 = Sum.inr z)) = decide (z ∈ f)
  | [] => rfl
  | y :: f => by
    show (decide ((Sum.inr y : Key) = Sum.inr z) || (dk f).any fun kv => decide (kv.1 = Sum.inr z)) = _
    rw [dk_any z f, key_rr]
    by_cases e : y = z
    · simp [e]
    · have e2 : ¬ z = y := fun q => e q.symm
      simp [e, e2]
theorem dk_put (z : Str) (f : List Str) : putK (dk f) (Sum.inr z) (.bl true) = dk (addS z f) := by
  unfold putK addS
  rw [dk_any]
  by_cases e : z ∈ f
  · rw [if_pos (decide_eq_true e), if_pos e]
    unfold dk
    rw [List.map_map]
    refine List.map_congr_left fun y hy => ?_
    show (if (Sum.inr y : Key) = Sum.inr z then ((Sum.inr y : Key), V.bl true) else (Sum.inr y, V.bl true)) = _
    split <;> rfl
  · rw [decide_eq_false e, if_neg Bool.false_ne_true, if_neg e]
    unfold dk
    rw [List.map_append]
    rfl
theorem addS_len (z : Str) (f : List Str) : (addS z f).length ≤ f.length + 1 := by
  unfold addS
  split
  · omega
  · rw [List.length_append]; exact Nat.le_refl _
mutual
theorem told_len : ∀ (t : T) (f : List Str), (told t f).length ≤ f.length + knots t
  | .v _, f => by unfold told knots; omega
  | .nm z, f => by unfold told knots; exact addS_len z f
  | .nd _ ks, f => by
    unfold told knots
    have := toldL_len ks f
    omega
theorem toldL_len : ∀ (ks : List T) (f : List Str), (toldL ks f).length ≤ f.length + knotsL ks
  | [], f => by unfold toldL knotsL; omega
  | k :: ks, f => by
    unfold toldL knotsL
    have h1 := told_len k f
    have h2 := toldL_len ks (told k f)
    omega
end
theorem knots_kids (t : T) : knotsL (kidsT t) + 1 ≤ knots t := by
  cases t with
  | v _ => exact Nat.le_refl _
  | nm _ => exact Nat.le_refl _
  | nd w ks => show knotsL ks + 1 ≤ 1 + knotsL ks; omega
theorem depth_kids (t : T) : depthL (kidsT t) + 1 ≤ depth t := by
  cases t with
  | v _ => exact Nat.le_refl _
  | nm _ => exact Nat.le_refl _
  | nd w ks => show depthL ks + 1 ≤ 1 + depthL ks; omega
theorem wf_kids {t : T} {b : Bool} (h : wf b t) : ∃ l, wfL l (kidsT t) := by
  cases t with
  | v _ => exact ⟨[], by unfold kidsT wfL; trivial⟩
  | nm _ => exact ⟨[], by unfold kidsT wfL; trivial⟩
  | nd w ks => unfold wf at h; obtain ⟨_, l, _, hk⟩ := h; exact ⟨l, hk⟩
theorem wfL_drop : ∀ {l : List Bool} {ks : List T} (i : Nat) {k : T} {r : List T}, wfL l ks → ks.drop i = k :: r → ∃ b, wf b k
  | [], [], i, k, r, _, e => by simp at e
  | b :: bs, k0 :: ks, 0, k, r, h, e => by
    simp only [wfL] at h
    simp only [List.drop_zero, List.cons.injEq] at e
    rw [← e.1]
    exact ⟨b, h.1⟩
  | b :: bs, k0 :: ks, i + 1, k, r, h, e => by
    simp only [wfL] at h
    exact wfL_drop i h.2 (by simpa using e)
  | [], _ :: _, i, k, r, h, _ => by simp [wfL] at h
  | _ :: _, [], i, k, r, h, _ => by simp [wfL] at h
theorem belowL_drop : ∀ {ks : List T} (i j bp n : Nat) {k : T} {r : List T}, belowL ks j bp n → ks.drop i = k :: r → below k (if j + i = bp then n + 1 else n)
  | [], i, j, bp, n, k, r, _, e => by simp at e
  | k0 :: ks, 0, j, bp, n, k, r, h, e => by
    simp only [belowL] at h
    simp only [List.drop_zero, List.cons.injEq] at e
    rw [← e.1]
    exact h.1
  | k0 :: ks, i + 1, j, bp, n, k, r, h, e => by
    simp only [belowL] at h
    have q := belowL_drop i (j + 1) bp n h.2 (by simpa using e)
    rw [show j + 1 + i = j + (i + 1) by omega] at q
    exact q
theorem below_kids {t : T} {n : Nat} (h : below t n) : belowL (kidsT t) 0 (bpT t) n := by
  cases t with
  | v _ => unfold kidsT belowL; trivial
  | nm _ => unfold kidsT belowL; trivial
  | nd w ks => unfold below at h; exact h
theorem knotsL_drop {ks : List T} {i : Nat} {k : T} {r : List T} (e : ks.drop i = k :: r) : knots k + knotsL r = knotsL (ks.drop i) := by
  rw [e]
  rfl
theorem depthL_drop {ks : List T} {i : Nat} {k : T} {r : List T} (e : ks.drop i = k :: r) : depth k ≤ depthL (ks.drop i) ∧ depthL r ≤ depthL (ks.drop i) := by
  rw [e]
  exact ⟨Nat.le_max_left _ _, Nat.le_max_right _ _⟩
theorem depthL_le : ∀ (ks : List T) (i : Nat), depthL (ks.drop i) ≤ depthL ks
  | [], i => by simp
  | k :: ks, 0 => Nat.le_refl _
  | k :: ks, i + 1 => by
    show depthL (ks.drop i) ≤ max (depth k) (depthL ks)
    have := depthL_le ks i
    omega
theorem knotsL_le : ∀ (ks : List T) (i : Nat), knotsL (ks.drop i) ≤ knotsL ks
  | [], i => by simp
  | k :: ks, 0 => Nat.le_refl _
  | k :: ks, i + 1 => by
    show knotsL (ks.drop i) ≤ knots k + knotsL ks
    have := knotsL_le ks i
    omega
theorem knots_pos (t : T) : 1 ≤ knots t := by
  have := knots_kids t
  omega
theorem knotsL_ge : ∀ ks : List T, ks.length ≤ knotsL ks
  | [] => Nat.zero_le _
  | k :: ks => by
    show ks.length + 1 ≤ knots k + knotsL ks
    have h1 := knots_pos k
    have h2 := knotsL_ge ks
    omega
/-! ### the promises -/
def spNoted (n : Nat) : Sp := fun vs H Q _ => ∃ (t : T) (b : Bool) (x : V) (o N : Nat) (d : Addr) (kvs : List (Key × V)), vs = [x, .int (o : Int), .ref d] ∧ At H t x ∧ wf b t ∧ below t (N + o) ∧ depth t ≤ n ∧ H d = some (.dK kvs) ∧ GoodD N kvs ∧
  kvs.length + knots t ≤ 100000 ∧ ∀ (kvs' : List (Key × V)) (H' : Hp), Kp d H H' → H' d = some (.dK kvs') → GoodD N kvs' → kvs'.length ≤ kvs.length + knots t → Q .non H'
def spFree : Sp := fun vs H Q _ => ∃ (t : T) (b : Bool) (x : V) (N : Nat), vs = [x] ∧ At H t x ∧ wf b t ∧ below t N ∧ depth t ≤ 41 ∧ knots t ≤ 100000 ∧
  ∀ (l : Addr) (ns : List Int) (H' : Hp), Same H H' → H l = none → H' l = some (.lst (ns.map V.int)) → (∀ m ∈ ns, m < (N : Int)) → Q (.ref l) H'
def spTold (n : Nat) : Sp := fun vs H Q _ => ∃ (t : T) (b : Bool) (x : V) (d : Addr) (f : List Str), vs = [x, .ref d] ∧ At H t x ∧ wf b t ∧ depth t ≤ n ∧ H d = some (.dK (dk f)) ∧ f.length + knots t ≤ 100000 ∧
  ∀ (H' : Hp), Kp d H H' → H' d = some (.dK (dk (told t f))) → Q .non H'
section
variable {P : Program} {w : World} {K : PySem.W.Frag} {mg : Str → Option Value} {base : Heap}
abbrev n_noted : List Str := ["thing", "over", "found", "kid", "bind"]
theorem sc_noted : FnScope n_noted ["thing", "over", "found"] (defScope s_noted) := ⟨rfl, rfl, rfl, by decide +kernel, rfl, by decide +kernel, by decide +kernel⟩
theorem ok_noted (D : Def K mg "noted" s_noted ["thing", "over", "found"]) (Z : Blt mg) (G_kids_of : Good P w K mg base 1 "kids_of" ["thing"] spKids) (G_binds_of : Good P w K mg base 2 "binds_of" ["thing"] spBindsL) :
    ∀ n : Nat, Good P w K mg base (n + 2) "noted" ["thing", "over", "found"] (spNoted n)
  | 0 => Good.none D fun vs H Q E h => by
    obtain ⟨t, b, x, o, N, d, kvs, _, _, _, _, h0, _⟩ := h
    have := depth_kids t
    omega
  | n + 1 => by
    have G_noted := ok_noted D Z G_kids_of G_binds_of n
    refine D.ok sc_noted (fun vs H Q E h => ?_) (fun cdv A outer s H vs Q E f hr h => ?_)
    · obtain ⟨t, b, x, o, N, d, kvs, rfl, _⟩ := h
      rfl
    obtain ⟨t, b, x, o, N, d, kvs, rfl, hx, hw, hb, hn, hd, hg, hk, q⟩ := h
    obtain ⟨a, xs, rfl, ha⟩ := hx.tup
    refine ⟨_, (pss_cons (ps_if (PW.pt (pw_and (pt_cmpR op_eq (pe_ix ix_tup (pv 0) pe_int (fun _ _ => rfl)) pe_str (nomark _)) (pw_and1 (pt_cmpR op_ge (pe_ix ix_tup (pv 0) pe_int (fun _ _ => rfl)) (pv 1) (nomark _))))) (pss_one (ps_dput (hu_of hr) (pv 2) (pe_op op_sub (pe_ix ix_tup (pv 0) pe_int (fun _ _ => rfl)) (pv 1)) (pe_op op_add (pe_dget2 (hu_of hr) (pv 2) (pe_op op_sub (pe_ix ix_tup (pv 0) pe_int (fun _ _ => rfl)) (pv 1)) pe_int ⟨rfl, rfl, rfl, rfl⟩) pe_int) rfl)) pss_nil)
    (pss_one (ps_for PassesOwn.never rfl (pi_zip (by rfl) Z.zip (pa_cons (gcall G_kids_of (hr.mono (by omega)) (pa_cons (pv 0) pa_nil)) (pa_cons (gcall G_binds_of (hr.mono (by omega)) (pa_cons (pv 0) pa_nil)) pa_nil))) (pg_tup rfl (pgs_cons (pg_name (i := 3) sc_noted.nd rfl (Or.inl rfl)) (pgs_cons (pg_name (i := 4) sc_noted.nd rfl (Or.inl rfl)) pgs_nil))) (pss_one (ps_expr (gcall G_noted (hr.mono (by omega)) (pa_cons (pv 3) (pa_cons (pe_op op_add (pv 1) (pv 4)) (pa_cons (pv 2) pa_nil))))))))), ?_⟩
    -- the loop, from any heap that the first statement leaves
    have loop : ∀ (H1 : Hp) (kv1 : List (Key × V)) (D' : Ends), D'.nx = (fun _ H' => Q .non H') → Kp d H H1 → H1 d = some (.dK kv1) → GoodD N kv1 → kv1.length ≤ kvs.length + 1 →
        tFor (iZip K (tCons (tCall spKids [] E0 (tCons (tVar 0) tNil)) (tCons (tCall spBindsL [] E0 (tCons (tVar 0) tNil)) tNil))) (gTup K 2 (gCons (gName 3) (gCons (gName 4) gNil)))
          (tDrop (tCall (spNoted n) [] E0 (tCons (tVar 3) (tCons (tOp (rI0 fun i j => .int (i + j)) (tVar 1) (tVar 4)) (tCons (tVar 2) tNil))))) D' (L2.start n_noted [V.ref a, V.int (o : Int), V.ref d]) H1 := by
      intro H1 kv1 D' eD s1 e1 g1 l1
      have tk1 : Tk H H1 := s1.tk hd (by intro z e; cases e)
      refine ⟨_, rfl, t, _, rfl, hx.mono tk1, nodeOk_of hw, fun l us H2 s2 hl2 e2 k2 => ?_⟩
      refine ⟨_, rfl, t, _, b, rfl, (hx.mono tk1).mono s2.tk, hw, fun l' bs H3 s3 hl3 e3 b3 => ?_⟩
      have hd3 : H3 d = some (.dK kv1) := s3 _ _ (s2 _ _ e1)
      have ndl : l ≠ d := ne_of (s3 _ _ e2) hd3 (by intro z; cases z)
      have ndl' : l' ≠ d := ne_of e3 hd3 (by intro z; cases z)
      have hlen : us.length = (bs.map V.int).length := by rw [List.length_map, b3.len, k2.length]
      refine ⟨l, l', us, _, rfl, SqL.of (s3 _ _ e2), SqL.of e3, RZ.for_zipL hlen (fun i σ H' => ∃ (x3 x4 : Option V) (kv : List (Key × V)), σ = [some (V.ref a), some (V.int (o : Int)), some (V.ref d), x3, x4] ∧ Kp d H3 H' ∧ H' d = some (.dK kv) ∧ GoodD N kv ∧
          kv.length + knotsL ((kidsT t).drop i) ≤ kvs.length + knots t) ⟨none, none, kv1, rfl, Kp.refl _ _, hd3, g1, ?_⟩ ?_ ?_ ?_⟩
      · have := knots_kids t
        rw [List.drop_zero]
        omega
      · rintro i σ H4 ⟨x3, x4, kv, rfl, s4, _⟩
        exact ⟨SqL.of (s4 _ _ ndl (s3 _ _ e2)), SqL.of (s4 _ _ ndl' e3)⟩
      · rintro i y yb T' σ H4 hy hyb ⟨x3, x4, kv, rfl, s4, e4, g4, l4⟩ hT
        obtain ⟨k, hk1, hk2, hk3⟩ := k2.get hy
        have hbi : i < bs.length := by
          have := (List.getElem?_eq_some_iff.mp hyb).1
          rw [List.length_map] at this
          exact this
        have eb : yb = V.int (if i = bpT t then 1 else 0) := by
          rw [List.getElem?_map, b3.at_ i hbi] at hyb
          exact (Option.some.inj hyb).symm
        subst eb
        refine ⟨T', _, rfl, SqT.of upd_same, rfl, _, _, rfl, _, _, rfl, rfl, ?_⟩
        have nT : d ≠ T' := ne_of_none e4 hT
        have s5 : Kp d H4 (upd H4 T' (.tup [y, V.int (if i = bpT t then 1 else 0)])) := (same_new hT _).kp
        have hd5 : upd H4 T' (.tup [y, V.int (if i = bpT t then 1 else 0)]) d = some (.dK kv) := by rw [upd_ne nT]; exact e4
        obtain ⟨lw, hlw⟩ := wf_kids hw
        obtain ⟨bk, hbk⟩ := wfL_drop i hlw hk3
        have hbel := belowL_drop i 0 _ _ (below_kids hb) hk3
        rw [Nat.zero_add] at hbel
        have hkn := knotsL_drop hk3
        have hdp := depthL_drop hk3
        have hdl := depthL_le (kidsT t) i
        have hdk := depth_kids t
        have tk5 : Tk H2 (upd H4 T' (.tup [y, V.int (if i = bpT t then 1 else 0)])) := s3.tk.trans ((s4.trans s5).tk hd3 (by intro z e; cases e))
        refine ⟨_, rfl, _, rfl, _, rfl, _, _, rfl, rfl, _, rfl, k, bk, y, o + (if i = bpT t then 1 else 0), N, d, kv, ?_, hk2.mono tk5, hbk, ?_, by omega, hd5, g4, by omega, fun kv' H6 s6 e6 g6 l6 => ?_⟩
        · have e7 : ((o + (if i = bpT t then 1 else 0) : Nat) : Int) = (o : Int) + (if i = bpT t then 1 else 0) := by
            split <;> simp
          rw [e7]
          rfl
        · have e7 : N + (o + (if i = bpT t then 1 else 0)) = if i = bpT t then N + o + 1 else N + o := by
            split <;> omega
          rw [e7]
          exact hbel
        · exact ⟨_, _, kv', rfl, (s4.trans s5).trans s6, e6, g6, by omega⟩
      · rintro σ H4 ⟨x3, x4, kv, rfl, s4, e4, g4, l4⟩
        rw [eD]
        exact q kv H4 ((s1.trans (s2.trans s3).kp).trans s4) e4 g4 (by omega)
    cases t with
    | nm z =>
      exact hd_eq (i := 0) rfl ha ⟨_, rfl, iteFc (show decide (("name" : Str) = "var") = false by decide +kernel) (iteFc rfl (loop H kvs _ rfl (Kp.refl _ _) hd hg (by omega)))⟩
    | nd z ks =>
      exact hd_eq (i := 0) rfl ha ⟨_, rfl, iteFc (decide_eq_false (nodeOk_of hw).1) (iteFc rfl (loop H kvs _ rfl (Kp.refl _ _) hd hg (by omega)))⟩
    | v k =>
      obtain ⟨a', e, ha'⟩ := hx.var
      cases e
      refine hd_eq (i := 0) rfl ha ⟨_, rfl, iteTc rfl ?_⟩
      refine ⟨_, rfl, a, _, _, _, rfl, rfl, SqT.of ha', at1, _, rfl, _, _, rfl, rfl, _, rfl, ite2 (fun c => ?_) (fun c => ?_)⟩
      · have c1 := of_decide_eq_true c
        obtain ⟨c0, hc0⟩ := hg.get (Sum.inl ((k : Int) - (o : Int)))
        refine ⟨_, rfl, d, rfl, .inl ⟨kvs, .inl hd⟩, _, rfl, a, _, _, _, rfl, rfl, SqT.of ha', at1, _, rfl, _, _, rfl, rfl, valV kvs (Sum.inl ((k : Int) - (o : Int))), DGet.k (k := Sum.inl ((k : Int) - (o : Int))) hd, ?_⟩
        rw [hc0]
        refine ⟨_, _, rfl, rfl, _, rfl, _, rfl, a, _, _, _, rfl, rfl, SqT.of ha', at1, _, rfl, _, _, rfl, rfl, d, _, rfl, DPut.k (k := Sum.inl ((k : Int) - (o : Int))) hd (smallLt (by omega)), ?_⟩
        unfold below at hb
        exact loop _ _ _ rfl kp_upd upd_same (hg.put _ (by omega)) (length_putK _ _ _)
      · exact loop H kvs _ rfl (Kp.refl _ _) hd hg (by omega)
theorem goodD_keys {N : Nat} : ∀ {kvs : List (Key × V)}, GoodD N kvs → ∃ ns : List Int, kvs.map (fun kv => kV kv.1) = ns.map V.int ∧ ∀ m ∈ ns, m < (N : Int)
  | [], _ => ⟨[], rfl, fun m hm => absurd hm List.not_mem_nil⟩
  | p :: kvs, h => by
    obtain ⟨i, c, e, hi⟩ := h p List.mem_cons_self
    obtain ⟨ns, e2, h2⟩ := goodD_keys (kvs := kvs) fun q hq => h q (List.mem_cons_of_mem _ hq)
    refine ⟨i :: ns, ?_, fun m hm => ?_⟩
    · rw [List.map_cons, List.map_cons, e2, e]
      rfl
    · rcases List.mem_cons.mp hm with rfl | hm
      · exact hi
      · exact h2 m hm
abbrev n_free_in : List Str := ["thing", "found"]
theorem sc_free_in : FnScope n_free_in ["thing"] (defScope s_free_in) := ⟨rfl, rfl, rfl, by decide +kernel, rfl, by decide +kernel, by decide +kernel⟩
theorem ok_free_in (D : Def K mg "free_in" s_free_in ["thing"]) (Z : Blt mg) (G_noted : Good P w K mg base 43 "noted" ["thing", "over", "found"] (spNoted 41)) : Good P w K mg base 44 "free_in" ["thing"] spFree := by
  refine D.ok sc_free_in (fun vs H Q E h => ?_) (fun cdv A outer s H vs Q E f hr h => ?_)
  · obtain ⟨t, b, x, N, rfl, _⟩ := h
    rfl
  obtain ⟨t, b, x, N, rfl, hx, hw, hb, hd, hk, q⟩ := h
  refine ⟨_, (pss_cons (ps_set (i := 1) sc_free_in.nd rfl (Or.inl rfl) pe_dnewK)
    (pss_cons (ps_expr (gcall G_noted (hr.mono (by omega)) (pa_cons (pv 0) (pa_cons pe_int (pa_cons (pv 1) pa_nil)))))
    (pss_one (ps_ret (pe_callB cr_sortedI (by rfl) Z.sorted (by decide +kernel) (pa_cons (pe_callTy (call_list_dK rfl) (by rfl) Z.list (by decide +kernel) (pa_cons (pv 1) pa_nil)) pa_nil)))))), ?_⟩
  intro p hp
  have s1 : Same H (upd H p (.dK [])) := same_new hp _
  refine ⟨_, rfl, _, rfl, t, b, x, 0, N, p, [], rfl, hx.mono s1.tk, hw, hb, hd, upd_same, fun z hz => absurd hz List.not_mem_nil, by rw [List.length_nil]; omega, fun kvs H1 s2 e1 g1 l1 => ?_⟩
  obtain ⟨ns, en, hn⟩ := goodD_keys g1
  have S : Same H H1 := fun b o hb2 => s2 b o (ne_of_none hb2 hp) (s1 b o hb2)
  refine ⟨_, rfl, p, kvs, rfl, e1, fun l hl => ?_⟩
  rw [en]
  refine ⟨l, ns, rfl, SqL.of upd_same, fun ns' p2 h1 h2 h3 => ?_⟩
  have S2 := (S.trans (same_new hl (.lst (ns.map V.int)))).trans (same_new h3 (.lst (ns'.map V.int)))
  exact q p2 ns' _ S2 ((S.trans (same_new hl (.lst (ns.map V.int)))).free h3) upd_same fun m hm => hn m (h1.mem_iff.mp hm)
abbrev n_told_names : List Str := ["thing", "found", "kid"]
theorem sc_told_names : FnScope n_told_names ["thing", "found"] (defScope s_told_names) := ⟨rfl, rfl, rfl, by decide +kernel, rfl, by decide +kernel, by decide +kernel⟩
theorem ok_told_names (D : Def K mg "told_names" s_told_names ["thing", "found"]) (Z : Blt mg) (G_kids_of : Good P w K mg base 1 "kids_of" ["thing"] spKids) :
    ∀ n : Nat, Good P w K mg base (n + 1) "told_names" ["thing", "found"] (spTold n)
  | 0 => Good.none D fun vs H Q E h => by
    obtain ⟨t, b, x, d, f, _, _, _, h0, _⟩ := h
    have := depth_kids t
    omega
  | n + 1 => by
    have G_told_names := ok_told_names D Z G_kids_of n
    refine D.ok sc_told_names (fun vs H Q E h => ?_) (fun cdv A outer s H vs Q E f hr h => ?_)
    · obtain ⟨t, b, x, d, f, rfl, _⟩ := h
      rfl
    obtain ⟨t, b, x, d, g, rfl, hx, hw, hn, hd, hk, q⟩ := h
    obtain ⟨a, xs, rfl, ha⟩ := hx.tup
    refine ⟨_, (pss_cons (ps_if (pt_cmpR op_eq (pe_ix ix_tup (pv 0) pe_int (fun _ _ => rfl)) pe_str (nomark _)) (pss_one (ps_dput (hu_of hr) (pv 1) (pe_ix ix_tup (pv 0) pe_int (fun _ _ => rfl)) pe_bl rfl)) pss_nil)
    (pss_one (ps_for PassesOwn.never rfl (pi_list (gcall G_kids_of (hr.mono (by omega)) (pa_cons (pv 0) pa_nil))) (pg_name (i := 2) sc_told_names.nd rfl (Or.inl rfl)) (pss_one (ps_expr (gcall G_told_names (hr.mono (by omega)) (pa_cons (pv 2) (pa_cons (pv 1) pa_nil)))))))), ?_⟩
    have loop : ∀ (H1 : Hp) (g1 : List Str) (D' : Ends), D'.nx = (fun _ H' => Q .non H') → Kp d H H1 → H1 d = some (.dK (dk g1)) → toldL (kidsT t) g1 = told t g → g1.length + knotsL (kidsT t) ≤ 100000 →
        tFor (iList K (tCall spKids [] E0 (tCons (tVar 0) tNil))) (gName 2) (tDrop (tCall (spTold n) [] E0 (tCons (tVar 2) (tCons (tVar 1) tNil)))) D' (L2.start n_told_names [V.ref a, V.ref d]) H1 := by
      intro H1 g1 D' eD s1 e1 et l1
      have tk1 : Tk H H1 := s1.tk hd (by intro z e; cases e)
      refine ⟨_, rfl, t, _, rfl, hx.mono tk1, nodeOk_of hw, fun l us H2 s2 hl2 e2 k2 => ?_⟩
      have hd2 : H2 d = some (.dK (dk g1)) := s2 _ _ e1
      have ndl : l ≠ d := ne_of e2 hd2 (by intro z; cases z)
      refine ⟨l, rfl, ⟨_, SqL.of e2⟩, for_list (K := K) (a := l) (xs := us) (fun i σ H' => ∃ (x2 : Option V) (g2 : List Str), σ = [some (V.ref a), some (V.ref d), x2] ∧ Kp d H2 H' ∧ H' d = some (.dK (dk g2)) ∧ toldL ((kidsT t).drop i) g2 = told t g ∧
          g2.length + knotsL ((kidsT t).drop i) ≤ 100000) ⟨none, g1, rfl, Kp.refl _ _, hd2, et, l1⟩ ?_ ?_ ?_⟩
      · rintro i σ H4 _ ⟨x2, g2, rfl, s4, _⟩
        exact SqL.of (s4 _ _ ndl e2)
      · rintro i y σ H4 hy ⟨x2, g2, rfl, s4, e4, t4, l4⟩
        obtain ⟨k, hk1, hk2, hk3⟩ := k2.get hy
        obtain ⟨lw, hlw⟩ := wf_kids hw
        obtain ⟨bk, hbk⟩ := wfL_drop i hlw hk3
        have hkn := knotsL_drop hk3
        have hdp := depthL_drop hk3
        have hdl := depthL_le (kidsT t) i
        have hdk := depth_kids t
        have tk4 : Tk H2 H4 := s4.tk hd2 (by intro z e; cases e)
        refine ⟨_, rfl, _, rfl, k, bk, y, d, g2, rfl, hk2.mono tk4, hbk, by omega, e4, by omega, fun H5 s5 e5 => ?_⟩
        rw [hk3] at t4
        have := told_len k g2
        exact ⟨_, told k g2, rfl, s4.trans s5, e5, t4, by omega⟩
      · rintro σ H4 ⟨x2, g2, rfl, s4, e4, t4, l4⟩
        have e9 : (kidsT t).drop us.length = [] := by rw [k2.length, List.drop_length]
        rw [e9] at t4
        have t5 : g2 = told t g := t4
        rw [t5] at e4
        rw [eD]
        exact q H4 ((s1.trans s2.kp).trans s4) e4
    cases t with
    | v k =>
      exact hd_eq (i := 0) rfl ha ⟨_, rfl, iteFc (show decide (("var" : Str) = "name") = false by decide +kernel) (loop H g _ rfl (Kp.refl _ _) hd rfl (by have := knots_kids (T.v k); omega))⟩
    | nd z ks =>
      exact hd_eq (i := 0) rfl ha ⟨_, rfl, iteFc (decide_eq_false (nodeOk_of hw).2) (loop H g _ rfl (Kp.refl _ _) hd rfl (by have := knots_kids (T.nd z ks); omega))⟩
    | nm z =>
      obtain ⟨a', e, ha'⟩ := hx.nam
      cases e
      refine hd_eq (i := 0) rfl ha ⟨_, rfl, iteTc rfl ?_⟩
      refine ⟨_, rfl, _, rfl, a, _, _, _, rfl, rfl, SqT.of ha', at1, d, _, rfl, DPut.k (k := Sum.inr z) hd (smallLt (by unfold dk; rw [List.length_map]; omega)), ?_⟩
      rw [dk_put]
      have := addS_len z g
      exact loop _ (addS z g) _ rfl kp_upd upd_same rfl (by have h1 : knotsL (kidsT (T.nm z)) = 0 := rfl; have h2 : knots (T.nm z) = 1 := rfl; omega)
end
end KP
set_option Elab.async false
set_option linter.all false
set_option maxRecDepth 100000
set_option maxHeartbeats 4000000
/-! KpShow: words of numbers, figures. -/
namespace KP
open PySem PySem.Spec PyProof.Rows L2
theorem letters_len : (TL.tl letters).length = 26 := by decide +kernel
theorem letters_at {k : Nat} (h : k < 26) : atI letters.cps.toList (k : Int) = some ((TL.tl letters).getD k 0) := by
  refine atI_nat ?_
  have h2 : k < (TL.tl letters).length := by rw [letters_len]; exact h
  rw [List.getD_eq_getElem?_getD, List.getElem?_eq_getElem h2]
  rfl
theorem wordGo_zero (f : Nat) (z : Str) : wordGo f 0 z = z := by
  cases f <;> rfl
theorem wordGo_succ {f m : Nat} (z : Str) (h : m ≠ 0) : wordGo (f + 1) m z = wordGo f ((m - 1) / 26) (chOf ((m - 1) % 26) ++ z) := by
  show (if m = 0 then z else _) = _
  rw [if_neg h]
theorem len_ch (k : Nat) : (chOf k).length = 1 := rfl
def figS (t : T) : Str := match figN t with
  | some n => numT n
  | none => ""
/-! ### the promises -/
def spWordBy : Sp := fun vs H Q _ => ∃ n : Nat, vs = [.int (n : Int)] ∧ n ≤ 1000 ∧ ∀ H', Same H H' → Q (.str (wordBy n)) H'
def spUnlike (K : PySem.W.Frag) : Sp := fun vs H Q _ => ∃ (a : Addr) (ws : List Str), vs = [.ref a] ∧ SqL K H a (ws.map V.str) ∧ UnlOk ws ∧ ∀ H', Same H H' → Q (.str (unl ws)) H'
def spFig : Sp := fun vs H Q _ => ∃ (t : T) (b : Bool) (x : V), vs = [x] ∧ At H t x ∧ wf b t ∧ depth t ≤ 100 ∧ ∀ H', Same H H' → Q (.str (figS t)) H'
section
variable {P : Program} {w : World} {K : PySem.W.Frag} {mg : Str → Option Value} {base : Heap}
abbrev n_word_by : List Str := ["number", "word"]
theorem sc_word_by : FnScope n_word_by ["number"] (defScope s_word_by) := ⟨rfl, rfl, rfl, by decide +kernel, rfl, by decide +kernel, by decide +kernel⟩
theorem ok_word_by (D : Def K mg "word_by" s_word_by ["number"]) (cL : ∃ t, mg "LETTERS_showing" = some (.str letters t)) : Good P w K mg base 1 "word_by" ["number"] spWordBy := by
  obtain ⟨tL, m_LETTERS_showing⟩ := cL
  refine D.ok sc_word_by (fun vs H Q E h => ?_) (fun cdv A outer s H vs Q E f hr h => ?_)
  · obtain ⟨n, rfl, _⟩ := h
    rfl
  obtain ⟨n, rfl, hn, q⟩ := h
  refine ⟨_, (pss_cons (ps_set (i := 1) sc_word_by.nd rfl (Or.inl rfl) pe_str)
    (pss_cons (ps_set (i := 0) sc_word_by.nd rfl (Or.inl rfl) (pe_op op_add (pv 0) pe_int))
    (pss_cons (ps_while PassesOwn.never (pt_cmpR op_gt (pv 0) pe_int (nomark _)) (pss_cons (ps_set (i := 1) sc_word_by.nd rfl (Or.inl rfl) (pe_op op_add_str (pe_ix ix_str (pe_glob (v := .str letters) (by rfl) m_LETTERS_showing ⟨_, rfl⟩) (pe_op op_mod (pe_op op_sub (pv 0) pe_int) pe_int) (fun _ _ => rfl)) (pv 1)))
      (pss_one (ps_set (i := 0) sc_word_by.nd rfl (Or.inl rfl) (pe_op op_fdiv (pe_op op_sub (pv 0) pe_int) pe_int)))))
    (pss_one (ps_ret (pv 1)))))), ?_⟩
  refine ⟨_, rfl, _, _, rfl, rfl, ?_⟩
  let W : Nat → L2.St → Hp → Prop := fun m σ H' => H' = H ∧ ∃ z : Str, σ = [some (.int (m : Int)), some (.str z)] ∧ z.length + m ≤ 1001 ∧ ∃ f, m ≤ f ∧ wordGo f m z = wordBy n
  refine ⟨W, ⟨n + 1, rfl, "", ?_, ?_, n + 1, Nat.le_refl _, rfl⟩, ?_⟩
  · rfl
  · have : ("" : Str).length = 0 := rfl
    omega
  · rintro m σ H1 ⟨rfl, z, rfl, hz, f, hf, hg⟩
    refine ⟨_, rfl, _, _, rfl, rfl, _, rfl, ite2 (fun c => ?_) (fun c => ?_)⟩
    · have c1 := of_decide_eq_true c
      refine ⟨fun σ' H' => ∃ m', m' < m ∧ W m' σ' H', fun σ' H' h => h, ?_⟩
      have e1 : ((m : Int) - 1) % 26 = (((m - 1) % 26 : Nat) : Int) := by omega
      have e2 : ((m : Int) - 1) / 26 = (((m - 1) / 26 : Nat) : Int) := by omega
      refine ⟨_, rfl, _, _, rfl, rfl, _, _, rfl, rfl, (by show (0 : Int) < 26; decide), letters, _, (TL.tl letters).getD ((m - 1) % 26) 0, rfl, rfl, smallN (by decide +kernel), ?_, _, rfl, _, _, rfl, rfl, ?_, ?_⟩
      · rw [e1]
        exact letters_at (Nat.mod_lt _ (by decide))
      · show 1 + z.length ≤ sizeLine
        exact smallN (by omega)
      refine ⟨_, rfl, _, _, rfl, rfl, _, _, rfl, rfl, ⟨by decide, by decide⟩, ?_⟩
      obtain ⟨f', rfl⟩ : ∃ f', f = f' + 1 := ⟨f - 1, by omega⟩
      refine ⟨(m - 1) / 26, by omega, rfl, chOf ((m - 1) % 26) ++ z, ?_, ?_, f', by omega, ?_⟩
      · rw [← e2]
        rfl
      · rw [len_app, len_ch]
        omega
      · rw [← wordGo_succ z (by omega)]
        exact hg
    · have c1 := of_decide_eq_false (Bool.eq_false_iff.mpr c)
      have em : m = 0 := by omega
      subst em
      rw [wordGo_zero] at hg
      subst hg
      exact ⟨_, rfl, q _ (Same.refl _)⟩
abbrev n_unlike_word : List Str := ["taken", "number"]
theorem sc_unlike_word : FnScope n_unlike_word ["taken"] (defScope s_unlike_word) := ⟨rfl, rfl, rfl, by decide +kernel, rfl, by decide +kernel, by decide +kernel⟩
theorem ok_unlike_word (D : Def K mg "unlike_word" s_unlike_word ["taken"]) (G_word_by : Good P w K mg base 1 "word_by" ["number"] spWordBy) (G_is_free_word : Good P w K mg base 5 "is_free_word" ["word"] spName) : Good P w K mg base 6 "unlike_word" ["taken"] (spUnlike K) := by
  refine D.ok sc_unlike_word (fun vs H Q E h => ?_) (fun cdv A outer s H vs Q E f hr h => ?_)
  · obtain ⟨a, ws, rfl, _⟩ := h
    rfl
  obtain ⟨a, ws, rfl, ha, hu, q⟩ := h
  refine ⟨_, (pss_cons (ps_set (i := 1) sc_unlike_word.nd rfl (Or.inl rfl) pe_int)
    (pss_cons (ps_while PassesOwn.never (PW.pt (pw_or (pt_cmpR op_in_seq (gcall G_word_by (hr.mono (by omega)) (pa_cons (pv 1) pa_nil)) (pv 0) (by rfl)) (pw_or1 (pt_not (pt_val (gcall G_is_free_word (hr.mono (by omega)) (pa_cons (gcall G_word_by (hr.mono (by omega)) (pa_cons (pv 1) pa_nil)) pa_nil))))))) (pss_one (ps_set (i := 1) sc_unlike_word.nd rfl (Or.inl rfl) (pe_op op_add (pv 1) pe_int))))
    (pss_one (ps_ret (gcall G_word_by (hr.mono (by omega)) (pa_cons (pv 1) pa_nil)))))), ?_⟩
  let W : Nat → L2.St → Hp → Prop := fun m σ H' => Same H H' ∧ ∃ k : Nat, σ = [some (.ref a), some (.int (k : Int))] ∧ k ≤ unlN ws ∧ m = unlN ws - k
  have hlt := hu.lt
  refine ⟨W, ⟨unlN ws, Same.refl _, 0, rfl, Nat.zero_le _, rfl⟩, ?_⟩
  rintro m σ H1 ⟨s1, k, rfl, hk, rfl⟩
  refine ⟨_, rfl, k, rfl, by omega, fun H2 s2 => ?_⟩
  refine ⟨_, rfl, a, _, rfl, .inl ((s1.trans s2).seq ha), rfl, flat_str ws, ?_⟩
  rw [inV_str]
  refine ⟨_, rfl, ite2 (fun c => ?_) (fun c => ?_)⟩
  · have c1 := of_decide_eq_true c
    have ne : k ≠ unlN ws := fun e => hu.out (by unfold unl; rw [← e]; exact c1)
    refine iteT ?_
    refine ⟨fun σ' H' => ∃ m', m' < unlN ws - k ∧ W m' σ' H', fun σ' H' h => h, ?_⟩
    refine ⟨_, rfl, _, _, rfl, rfl, ?_⟩
    exact ⟨unlN ws - (k + 1), by omega, s1.trans s2, k + 1, rfl, by omega, rfl⟩
  · have c1 : wordBy k ∉ ws := of_decide_eq_false (Bool.eq_false_iff.mpr c)
    have ek : k = unlN ws := by
      rcases Nat.lt_or_ge k (unlN ws) with h | h
      · exact absurd (hu.first k h) c1
      · omega
    have g : nameS (wordBy k) = true ∧ (wordBy k).length ≤ 2 := by
      have q := unl_good hu
      unfold unl at q
      rw [← ek] at q
      exact q
    refine ⟨_, rfl, k, rfl, by omega, fun H3 s3 => ⟨_, rfl, by omega, fun H4 s4 => ⟨_, rfl, ?_⟩⟩⟩
    rw [g.1]
    refine iteFc rfl ?_
    refine ⟨_, rfl, k, rfl, by omega, fun H5 s5 => ?_⟩
    have e : wordBy k = unl ws := by unfold unl; rw [ek]
    rw [e]
    exact q _ ((((s1.trans s2).trans s3).trans s4).trans s5)
abbrev n_figures_of : List Str := ["thing", "many"]
theorem sc_figures_of : FnScope n_figures_of ["thing"] (defScope s_figures_of) := ⟨rfl, rfl, rfl, by decide +kernel, rfl, by decide +kernel, by decide +kernel⟩
theorem ok_figures_of (D : Def K mg "figures_of" s_figures_of ["thing"]) (Z : Blt mg) : Good P w K mg base 1 "figures_of" ["thing"] spFig := by
  refine D.ok sc_figures_of (fun vs H Q E h => ?_) (fun cdv A outer s H vs Q E f hr h => ?_)
  · obtain ⟨t, b, x, rfl, _⟩ := h
    rfl
  obtain ⟨t, b, x, rfl, hx, hw, hd, q⟩ := h
  refine ⟨_, (pss_cons (ps_set (i := 1) sc_figures_of.nd rfl (Or.inl rfl) pe_int)
    (pss_cons (ps_while PassesOwn.never (pt_cmpR op_eq (pe_ix ix_tup (pv 0) pe_int (fun _ _ => rfl)) pe_str (nomark _)) (pss_cons (ps_set (i := 0) sc_figures_of.nd rfl (Or.inl rfl) (pe_ix ix_tup (pv 0) pe_int (fun _ _ => rfl)))
      (pss_one (ps_set (i := 1) sc_figures_of.nd rfl (Or.inl rfl) (pe_op op_add (pv 1) pe_int)))))
    (pss_cons (ps_if (pt_cmpR op_eq (pe_ix ix_tup (pv 0) pe_int (fun _ _ => rfl)) pe_str (nomark _)) (pss_one (ps_ret (pe_callTy call_str_int (by rfl) Z.str (by decide +kernel) (pa_cons (pv 1) pa_nil)))) pss_nil)
    (pss_one (ps_ret pe_str))))), ?_⟩
  let W : Nat → L2.St → Hp → Prop := fun m σ H' => H' = H ∧ ∃ (t' : T) (b' : Bool) (x' : V) (k : Nat), σ = [some x', some (.int (k : Int))] ∧ At H t' x' ∧ wf b' t' ∧ figN t = (figN t').map (· + k) ∧ depth t' + k ≤ 100 ∧ m = depth t'
  refine ⟨W, ⟨_, rfl, t, b, x, 0, rfl, hx, hw, ?_, by omega, rfl⟩, ?_⟩
  · cases figN t <;> rfl
  rintro m σ H1 ⟨rfl, t', b', x', k, rfl, hx', hw', hf, hd', rfl⟩
  obtain ⟨a, xs, rfl, ha⟩ := hx'.tup
  refine hd_eq (i := 0) rfl ha ⟨_, rfl, ite2 (fun c => ?_) (fun c => ?_)⟩
  · have c1 := of_decide_eq_true c
    refine ⟨fun σ' H' => ∃ m', m' < depth t' ∧ W m' σ' H', fun σ' H' h => h, ?_⟩
    cases t' with
    | v j => exact absurd (show ("var" : Str) = "next" from c1) (by decide +kernel)
    | nm z => exact absurd (show ("name" : Str) = "next" from c1) (by decide +kernel)
    | nd z ks =>
      have c2 : z = "next" := c1
      subst c2
      obtain ⟨hb, y, rfl, hy⟩ := wf_next hw'
      obtain ⟨a', vs, e, ha', hk⟩ := hx'.nod
      cases e
      have hk' := hk
      unfold AtL at hk'
      obtain ⟨v, r, rfl, hv, hr2⟩ := hk'
      refine ⟨_, rfl, a, _, _, _, rfl, rfl, SqT.of ha', at1, ?_⟩
      refine ⟨_, rfl, _, _, rfl, rfl, ?_⟩
      have dep : depth (.nd "next" [y]) = depth y + 1 := by
        simp only [depth, depthL]
        omega
      refine ⟨depth y, by omega, rfl, y, false, v, k + 1, rfl, hv, hy, ?_, by omega, rfl⟩
      rw [hf]
      have e3 : figN (.nd "next" [y]) = (figN y).map (· + 1) := by
        show (if ("next" : Str) = "zero" then some 0 else if ("next" : Str) = "next" then (figL [y]).map (· + 1) else none) = _
        rw [if_neg (by decide +kernel), if_pos rfl]
        rfl
      rw [e3]
      cases figN y with
      | none => rfl
      | some j => show some (j + 1 + k) = some (j + (k + 1)); congr 1; omega
  · have c1 := of_decide_eq_false (Bool.eq_false_iff.mpr c)
    refine hd_eq (i := 0) rfl ha ⟨_, rfl, ite2 (fun c2 => ?_) (fun c2 => ?_)⟩
    · have c3 := of_decide_eq_true c2
      refine ⟨_, rfl, _, rfl, ?_, ?_⟩
      · have hk : k ≤ 100 := by omega
        have h1 : ((k : Nat) : Int).natAbs = k := Int.natAbs_natCast k
        rw [h1]
        exact Nat.lt_of_le_of_lt (Nat.log2_le_self k) (by omega)
      · have e : figS t = numT k := by
          unfold figS
          cases t' with
          | v j => exact absurd (show ("var" : Str) = "zero" from c3) (by decide +kernel)
          | nm z => exact absurd (show ("name" : Str) = "zero" from c3) (by decide +kernel)
          | nd z ks =>
            have c4 : z = "zero" := c3
            subst c4
            have e3 : figN (.nd "zero" ks) = some 0 := by
              show (if ("zero" : Str) = "zero" then some 0 else if ("zero" : Str) = "next" then (figL ks).map (· + 1) else none) = some 0
              rw [if_pos rfl]
            rw [hf, e3]
            show numT (0 + k) = numT k
            rw [Nat.zero_add]
        rw [e] at q
        exact q _ (Same.refl _)
    · have c3 := of_decide_eq_false (Bool.eq_false_iff.mpr c2)
      have e : figS t = "" := by
        unfold figS
        have e3 : figN t' = none := by
          cases t' with
          | v j => rfl
          | nm z => rfl
          | nd z ks =>
            show (if z = "zero" then some 0 else if z = "next" then (figL ks).map (· + 1) else none) = none
            rw [if_neg (show ¬ z = "zero" from c3), if_neg (show ¬ z = "next" from c1)]
        rw [hf, e3]
        rfl
      rw [e] at q
      exact q _ (Same.refl _)
end
end KP
set_option Elab.async false
set_option linter.all false
set_option maxRecDepth 100000
set_option maxHeartbeats 4000000
/-! KpShown: what is shown. -/
namespace KP
open PySem PySem.Spec PyProof.Rows L2
/-! ### plain -/
theorem sh_fig {kept : List Str} {w : Str} {ks : List T} {sc : List Str} {n : Nat} (e : figN (.nd w ks) = some n) : sh kept (.nd w ks) sc = numT n := by
  unfold sh
  rw [e]
theorem sh_leaf {kept : List Str} {w : Str} {ks : List T} {sc : List Str} (e : figN (.nd w ks) = none) (h : w = "nat" ∨ w = "none") : sh kept (.nd w ks) sc = w := by
  unfold sh
  rw [e]
  exact if_pos h
def formWords (kept : List Str) (w : Str) (ks : List T) (sc : List Str) : List Str :=
  (if bindS w then [unl (sc ++ kept)] else []) ++ shL kept ks 0 (bpN w) sc (unl (sc ++ kept))
theorem sh_form {kept : List Str} {w : Str} {ks : List T} {sc : List Str} (e : figN (.nd w ks) = none) (h : ¬ (w = "nat" ∨ w = "none")) : sh kept (.nd w ks) sc = brk (w :: formWords kept w ks sc) := by
  unfold sh
  rw [e]
  exact if_neg h
structure ChildOk (k : T) (sc kept : List Str) (w : Str) (ks : List T) (i : Nat) : Prop where
  wfk : ∃ b, wf b k
  sck : Sc (if i = bpN w then unl (sc ++ kept) :: sc else sc) kept (depth k)
  blk : below k (if i = bpN w then unl (sc ++ kept) :: sc else sc).length
  dpk : depth k + 1 ≤ depth (.nd w ks)
  knk : knots k ≤ knots (.nd w ks)
theorem child_ok {sc kept : List Str} {w : Str} {ks : List T} {b : Bool} {i : Nat} {k : T} {r : List T} (hw : wf b (.nd w ks)) (hs : Sc sc kept (depth (.nd w ks))) (hb : below (.nd w ks) sc.length) (e : ks.drop i = k :: r) : ChildOk k sc kept w ks i := by
  obtain ⟨lw, hlw⟩ := wf_kids hw
  have h1 := knotsL_drop e
  have h2 := depthL_drop e
  have h3 := depthL_le ks i
  have h4 : depth (.nd w ks) = depthL ks + 1 := by unfold depth; omega
  have h5 : knots (.nd w ks) = 1 + knotsL ks := rfl
  have h6 : knotsL (ks.drop i) ≤ knotsL ks := knotsL_le ks i
  refine ⟨wfL_drop i hlw e, ?_, ?_, by omega, by omega⟩
  · rw [h4] at hs
    exact (hs.child (i = bpN w)).mono (by omega)
  · have q := belowL_drop i 0 _ _ (below_kids hb) e
    rw [Nat.zero_add] at q
    by_cases c : i = bpN w
    · rw [if_pos c]
      rw [if_pos (show i = bpT (.nd w ks) from c)] at q
      exact q
    · rw [if_neg c]
      rw [if_neg (show ¬ i = bpT (.nd w ks) from c)] at q
      exact q
theorem shL_drop {kept : List Str} {sc : List Str} {b : Str} {bp : Nat} {ks : List T} {i : Nat} {k : T} {r : List T} (e : ks.drop i = k :: r) :
    shL kept (ks.drop i) i bp sc b = sh kept k (if i = bp then b :: sc else sc) :: shL kept r (i + 1) bp sc b := by
  rw [e]
  rfl
theorem lenL_sum : ∀ ys : List Str, (ys.map (·.length)).sum + ys.length * 1 = lenL ys
  | [] => rfl
  | y :: ys => by
    rw [List.map_cons, List.sum_cons, List.length_cons]
    have := lenL_sum ys
    unfold lenL
    omega
/-- a list of texts stands at a -/
def Ls (H : Hp) (a : Addr) (ws : List Str) : Prop := H a = some (.lst (ws.map V.str))
/-! ### the promises -/
def spShownIn (n : Nat) : Sp := fun vs H Q _ => ∃ (t : T) (b : Bool) (x : V) (sa ka : Addr) (sc kept : List Str), vs = [x, .ref sa, .ref ka] ∧ At H t x ∧ wf b t ∧ Ls H sa sc ∧ Ls H ka kept ∧ Sc sc kept (depth t) ∧ below t sc.length ∧
  depth t ≤ n ∧ depth t ≤ 40 ∧ knots t ≤ 600 ∧ kept.length ≤ 1000 ∧ ∀ H', Same H H' → Q (.str (sh kept t sc)) H'
def spShownKids (n : Nat) : Sp := fun vs H Q _ => ∃ (z : Str) (ks : List T) (b : Bool) (x : V) (sa ka : Addr) (sc kept : List Str), vs = [x, .ref sa, .ref ka] ∧ At H (.nd z ks) x ∧ wf b (.nd z ks) ∧ Ls H sa sc ∧ Ls H ka kept ∧ Sc sc kept (depth (.nd z ks)) ∧
  below (.nd z ks) sc.length ∧ depth (.nd z ks) ≤ n + 1 ∧ depth (.nd z ks) ≤ 40 ∧ knots (.nd z ks) ≤ 600 ∧ kept.length ≤ 1000 ∧ ∀ (l : Addr) (H' : Hp), Same H H' → H l = none → Ls H' l (formWords kept z ks sc) → Q (.ref l) H'
section
variable {P : Program} {w : World} {K : PySem.W.Frag} {mg : Str → Option Value} {base : Heap}
abbrev n_shown_kids : List Str := ["thing", "scope", "kept", "kids", "binder", "under", "found", "number", "kid"]
theorem sc_shown_kids : FnScope n_shown_kids ["thing", "scope", "kept"] (defScope s_shown_kids) := ⟨rfl, rfl, rfl, by decide +kernel, rfl, by decide +kernel, by decide +kernel⟩
theorem ok_shown_kids (D : Def K mg "shown_kids" s_shown_kids ["thing", "scope", "kept"]) (Z : Blt mg) (G_kids_of : Good P w K mg base 1 "kids_of" ["thing"] spKids) (G_names_one : Good P w K mg base 1 "names_one" ["word"] spBinds)
    (G_bound_part : Good P w K mg base 1 "bound_part" ["word"] spBound) (G_unlike_word : Good P w K mg base 6 "unlike_word" ["taken"] (spUnlike K)) {n m : Nat} (hm : 6 ≤ m) (G_shown_in : Good P w K mg base m "shown_in" ["thing", "scope", "kept"] (spShownIn n)) :
    Good P w K mg base (m + 1) "shown_kids" ["thing", "scope", "kept"] (spShownKids n) := by
  refine D.ok sc_shown_kids (fun vs H Q E h => ?_) (fun cdv A outer s H vs Q E f hr h => ?_)
  · obtain ⟨z, ks, b, x, sa, ka, sc, kept, rfl, _⟩ := h
    rfl
  obtain ⟨z, ks, b, x, sa, ka, sc, kept, rfl, hx, hw, hsa, hka, hs, hb, hn, hd, hkn, hkl, q⟩ := h
  obtain ⟨a, vs0, rfl, ha, hk0⟩ := hx.nod
  refine ⟨_, (pss_cons (ps_set (i := 3) sc_shown_kids.nd rfl (Or.inl rfl) (gcall G_kids_of (hr.mono (by omega)) (pa_cons (pv 0) pa_nil)))
    (pss_cons (ps_if (pt_not (pt_val (gcall G_names_one (hr.mono (by omega)) (pa_cons (pe_ix ix_tup (pv 0) pe_int (fun _ _ => rfl)) pa_nil)))) (pss_one (ps_ret (pe_lc (own := [("kid", 8)]) (g := gName 8) (tt := tYes) rfl sc_shown_kids.nd (pi_list (pv 3)) (blkOk_by (N := n_shown_kids) (sc := defScope s_shown_kids) (by decide +kernel)) (fun _ _ _ _ _ => pg_name (i := 8) sc_shown_kids.nd rfl (Or.inl rfl)) (fun _ _ _ _ _ => pts_nil) (fun _ _ _ _ _ => (gcall G_shown_in (hr.mono (by omega)) (pa_cons (pv 8) (pa_cons (pv 1) (pa_cons (pv 2) pa_nil)))))))) pss_nil)
    (pss_cons (ps_set (i := 4) sc_shown_kids.nd rfl (Or.inl rfl) (gcall G_unlike_word (hr.mono (by omega)) (pa_cons (pe_op op_cat (pv 1) (pv 2)) pa_nil)))
    (pss_cons (ps_set (i := 5) sc_shown_kids.nd rfl (Or.inl rfl) (pe_op op_cat (pe_lst (pa_cons (pv 4) pa_nil)) (pv 1)))
    (pss_cons (ps_set (i := 6) sc_shown_kids.nd rfl (Or.inl rfl) (pe_lst (pa_cons (pv 4) pa_nil)))
    (pss_cons (ps_for PassesOwn.never rfl (pi_range1 (by rfl) Z.range (pa_cons (pe_callB call_len_seq (by rfl) Z.len (by decide +kernel) (pa_cons (pv 3) pa_nil)) pa_nil)) (pg_name (i := 7) sc_shown_kids.nd rfl (Or.inl rfl)) (pss_one (ps_if (pt_cmpR op_eq (pv 7) (gcall G_bound_part (hr.mono (by omega)) (pa_cons (pe_ix ix_tup (pv 0) pe_int (fun _ _ => rfl)) pa_nil)) (nomark _)) (pss_one (ps_expr (pe_bm PySem.F.plainAttrs_list PySem.F.slot_list_append PySem.F.type_list_append mt_append (pv 6) (pa_cons (gcall G_shown_in (hr.mono (by omega)) (pa_cons (pe_ix ix_list (pv 3) (pv 7) (fun _ _ => rfl)) (pa_cons (pv 5) (pa_cons (pv 2) pa_nil)))) pa_nil)))) (pss_one (ps_expr (pe_bm PySem.F.plainAttrs_list PySem.F.slot_list_append PySem.F.type_list_append mt_append (pv 6) (pa_cons (gcall G_shown_in (hr.mono (by omega)) (pa_cons (pe_ix ix_list (pv 3) (pv 7) (fun _ _ => rfl)) (pa_cons (pv 1) (pa_cons (pv 2) pa_nil)))) pa_nil)))))))
    (pss_one (ps_ret (pv 6))))))))), ?_⟩
  refine ⟨_, rfl, .nd z ks, _, rfl, hx, nodeOk_of hw, fun l us H1 s1 hl1 e1 k1 => ?_⟩
  refine ⟨_, rfl, a, _, _, _, rfl, rfl, SqT.of (s1 _ _ ha), at0, z, rfl, fun H2 s2 => ⟨_, rfl, ?_⟩⟩
  have S2 := s1.trans s2
  have e2 : H2 l = some (.lst us) := s2 _ _ e1
  have k2 : AtL H2 ks us := k1.mono s2.tk
  cases hbi : bindS z with
  | false =>
    refine iteT ?_
    refine ⟨_, rfl, l, rfl, ⟨_, SqL.of e2⟩, fun Dl hD => lc_list (K := K) (a := l) (xs := us) (fun i H' => ∃ acc : List Str, Same H2 H' ∧ Ls H' Dl acc ∧ acc ++ shL kept (ks.drop i) i (bpN z) sc (unl (sc ++ kept)) = shL kept ks 0 (bpN z) sc (unl (sc ++ kept)) ∧ acc.length = i)
      ⟨[], same_new hD _, upd_same, rfl, rfl⟩ ?_ ?_ ?_⟩
    · rintro i H3 _ ⟨acc, s3, _⟩
      exact SqL.of (s3 _ _ e2)
    · rintro i y H3 hy ⟨acc, s3, e3, t3, l3⟩
      obtain ⟨k, hk1, hk2, hk3⟩ := k2.get hy
      have C := child_ok hw hs hb hk3
      obtain ⟨bk, hbk⟩ := C.wfk
      have hi : i < us.length := (List.getElem?_eq_some_iff.mp hy).1
      have h4 : us.length ≤ 4 := by
        rw [k2.length]
        have hw' := hw
        unfold wf at hw'
        obtain ⟨_, lz, hlz, hkz⟩ := hw'
        rw [wfL_length hkz]
        exact four_le hlz
      have e9 : bpN z = 9 := by unfold bpN; rw [if_neg (by rw [hbi]; exact Bool.false_ne_true)]
      have ni : ¬ i = bpN z := by omega
      have hsc := C.sck
      have hbl := C.blk
      rw [if_neg ni] at hsc hbl
      have hdp := C.dpk
      have hkk := C.knk
      refine ⟨rfl, _, rfl, _, rfl, _, rfl, k, bk, y, sa, ka, sc, kept, rfl, hk2.mono s3.tk, hbk, s3 _ _ (S2 _ _ hsa), s3 _ _ (S2 _ _ hka), hsc, hbl, by omega, by omega, by omega, hkl, fun H4 s4 => ?_⟩
      refine ⟨acc.map V.str, s4 _ _ e3, by rw [List.length_map]; exact smallLt (by omega), acc ++ [sh kept k sc], ?_, ?_, ?_, by rw [List.length_append, l3]; rfl⟩
      · intro c o hc
        have nc : c ≠ Dl := ne_of_none hc hD
        rw [upd_ne nc]
        exact s4 _ _ (s3 _ _ hc)
      · show upd H4 Dl (.lst (acc.map V.str ++ [V.str (sh kept k sc)])) Dl = some (.lst ((acc ++ [sh kept k sc]).map V.str))
        rw [upd_same, List.map_append]
        rfl
      · rw [shL_drop hk3, if_neg ni] at t3
        rw [List.append_assoc]
        exact t3
    · rintro H3 ⟨acc, s3, e3, t3, l3⟩
      have e9 : ks.drop us.length = [] := by rw [k2.length, List.drop_length]
      rw [e9] at t3
      have t4 : acc = shL kept ks 0 (bpN z) sc (unl (sc ++ kept)) := by
        rw [← t3]
        exact (List.append_nil acc).symm
      refine q Dl H3 (S2.trans s3) (S2.free hD) ?_
      unfold formWords
      rw [hbi, if_neg Bool.false_ne_true, List.nil_append, ← t4]
      exact e3
  | true =>
    refine iteF ?_
    have hu := hs.unl
    have hg := unl_good hu
    have hscl := hs.len
    -- binder
    refine ⟨_, rfl, _, rfl, sa, ka, _, _, rfl, rfl, S2 _ _ hsa, S2 _ _ hka, ?_, fun p hp => ?_⟩
    · rw [List.length_map, List.length_map]
      exact smallN (by omega)
    rw [← List.map_append]
    refine ⟨p, sc ++ kept, rfl, SqL.of upd_same, hu, fun H3 s3 => ?_⟩
    have S3 : Same H H3 := (S2.trans (same_new hp _)).trans s3
    have T3 : Same H2 H3 := (same_new hp _).trans s3
    -- under
    refine ⟨_, rfl, smallN (by show 1 ≤ 1000000; decide), fun p2 hp2 => ⟨_, rfl, p2, sa, _, _, rfl, rfl, upd_same, (same_new hp2 _) _ _ (S3 _ _ hsa), ?_, fun p3 hp3 => ?_⟩⟩
    · rw [List.length_map]
      show 1 + sc.length ≤ sizeLine
      exact smallN (by omega)
    -- found
    refine ⟨_, rfl, smallN (by show 1 ≤ 1000000; decide), fun p4 hp4 => ?_⟩
    have T5 : Same H3 (upd (upd (upd H3 p2 (.lst [V.str (unl (sc ++ kept))])) p3 (.lst ([V.str (unl (sc ++ kept))] ++ sc.map V.str))) p4 (.lst [V.str (unl (sc ++ kept))])) := ((same_new hp2 _).trans (same_new hp3 _)).trans (same_new hp4 _)
    have S5 := S3.trans T5
    have eu : (upd (upd (upd H3 p2 (.lst [V.str (unl (sc ++ kept))])) p3 (.lst ([V.str (unl (sc ++ kept))] ++ sc.map V.str))) p4 (.lst [V.str (unl (sc ++ kept))])) p3 = some (.lst ((unl (sc ++ kept) :: sc).map V.str)) := (same_new hp4 _) _ _ upd_same
    have f5 : H p4 = none := ((S3.trans (same_new hp2 _)).trans (same_new hp3 _)).free hp4
    generalize eH : (upd (upd (upd H3 p2 (.lst [V.str (unl (sc ++ kept))])) p3 (.lst ([V.str (unl (sc ++ kept))] ++ sc.map V.str))) p4 (.lst [V.str (unl (sc ++ kept))])) = H5 at T5 S5 eu
    have e4 : H5 p4 = some (.lst [V.str (unl (sc ++ kept))]) := by rw [← eH]; exact upd_same
    have n34 : p3 ≠ p4 := ne_of_none (o := .lst ([V.str (unl (sc ++ kept))] ++ sc.map V.str)) upd_same hp4
    have el : H5 l = some (.lst us) := T5 _ _ (T3 _ _ e2)
    have hnot : ∀ {c : Addr} {o : HO}, H c = some o → c ≠ p4 := fun hc => ne_of_none hc f5
    have nl : l ≠ p4 := fun e => by
      have : H3 l = some (.lst us) := T3 _ _ e2
      rw [e] at this
      have h2 := ((same_new hp2 (.lst [V.str (unl (sc ++ kept))])).trans (same_new hp3 (.lst ([V.str (unl (sc ++ kept))] ++ sc.map V.str)))) _ _ this
      rw [hp4] at h2
      cases h2
    refine ⟨_, rfl, l, us, rfl, .inl (SqL.of el), _, rfl, by omega, ?_, for_range (lo := 0) (n := ((us.length : Nat) : Int).toNat) (fun i σ H' => ∃ (acc : List Str) (x7 : Option V), σ = [some (V.ref a), some (V.ref sa), some (V.ref ka), some (V.ref l), some (V.str (unl (sc ++ kept))), some (V.ref p3), some (V.ref p4), x7, none] ∧
        Kp p4 H5 H' ∧ Ls H' p4 (unl (sc ++ kept) :: acc) ∧ acc ++ shL kept (ks.drop i) i (bpN z) sc (unl (sc ++ kept)) = shL kept ks 0 (bpN z) sc (unl (sc ++ kept)) ∧ acc.length = i) ⟨[], none, rfl, Kp.refl _ _, e4, rfl, rfl⟩ ?_ ?_⟩
    · have h4 : us.length ≤ 4 := by
        rw [k2.length]
        have hw' := hw
        unfold wf at hw'
        obtain ⟨_, lz, hlz, hkz⟩ := hw'
        rw [wfL_length hkz]
        exact four_le hlz
      omega
    · rintro i σ H6 hi ⟨acc, x7, rfl, s6, e6, t6, l6⟩
      have hi2 : i < us.length := hi
      have hy : us[i]? = some us[i] := List.getElem?_eq_getElem hi2
      obtain ⟨k, hk1, hk2, hk3⟩ := k2.get hy
      have C := child_ok hw hs hb hk3
      obtain ⟨bk, hbk⟩ := C.wfk
      have ha6 : H6 a = some (.tup (.str z :: vs0)) := s6 _ _ (hnot ha) (S5 _ _ ha)
      have e0i : (0 : Int) + (i : Int) = ((i : Nat) : Int) := by omega
      refine ⟨_, rfl, _, rfl, a, _, _, _, rfl, rfl, SqT.of ha6, at0, z, rfl, fun H7 s7 => ⟨rfl, _, rfl, ?_⟩⟩
      have S7 : Kp p4 H5 H7 := s6.trans s7.kp
      have e7 : Ls H7 p4 (unl (sc ++ kept) :: acc) := s7 _ _ e6
      have el7 : H7 l = some (.lst us) := S7 _ _ nl el
      have T7 : Tk H2 H7 := T3.tk.trans (T5.tk.trans (S7.tk e4 (by intro z e; cases e)))
      have hsc := C.sck
      have hbl := C.blk
      have hdp := C.dpk
      have hkk := C.knk
      have ebp : bpN z = bpS z := by unfold bpN; rw [if_pos hbi]
      have fin : ∀ (H8 : Hp), Same H7 H8 → acc ++ [sh kept k (if i = bpN z then unl (sc ++ kept) :: sc else sc)] ++ shL kept (ks.drop (i + 1)) (i + 1) (bpN z) sc (unl (sc ++ kept)) = shL kept ks 0 (bpN z) sc (unl (sc ++ kept)) := by
        intro H8 s8
        rw [shL_drop hk3] at t6
        rw [List.append_assoc]
        exact t6
      have lim : ((unl (sc ++ kept) :: acc).map V.str).length < sizeLine := by
        rw [List.length_map, List.length_cons]
        have : us.length ≤ 1000 := by
          have e8 := k2.length
          have h8 := knotsL_ge ks
          have h9 : knots (.nd z ks) = 1 + knotsL ks := rfl
          omega
        exact smallLt (by omega)
      refine ite2 (fun c => ?_) (fun c => ?_)
      · have c1 : i = bpN z := by
          have c2 := V.int.inj (of_decide_eq_true c)
          omega
        rw [if_pos c1] at hsc hbl fin
        refine ⟨_, rfl, .inl ⟨rfl, _, SqL.of e7⟩, _, rfl, _, rfl, l, us, _, _, rfl, rfl, SqL.of el7, at_of e0i hy, _, rfl, _, rfl, k, bk, _, p3, ka, unl (sc ++ kept) :: sc, kept, rfl, hk2.mono T7, hbk, S7 _ _ n34 eu, S7 _ _ (hnot hka) (S5 _ _ hka), hsc, hbl, by omega, by omega, by omega, hkl, fun H8 s8 => ?_⟩
        refine ⟨p4, _, _, rfl, rfl, s8 _ _ e7, lim, acc ++ [sh kept k (unl (sc ++ kept) :: sc)], _, rfl, (S7.trans s8.kp).trans kp_upd, ?_, fin H8 s8, by rw [List.length_append, l6]; rfl⟩
        show upd H8 p4 _ p4 = _
        rw [upd_same]
        show some (HO.lst ((unl (sc ++ kept) :: acc).map V.str ++ [V.str _])) = some (HO.lst ((unl (sc ++ kept) :: (acc ++ [_])).map V.str))
        rw [← List.cons_append, List.map_append]
        rfl
      · have c1 : ¬ i = bpN z := fun e => c (decide_eq_true (by rw [e0i, e, ebp]))
        rw [if_neg c1] at hsc hbl fin
        refine ⟨_, rfl, .inl ⟨rfl, _, SqL.of e7⟩, _, rfl, _, rfl, l, us, _, _, rfl, rfl, SqL.of el7, at_of e0i hy, _, rfl, _, rfl, k, bk, _, sa, ka, sc, kept, rfl, hk2.mono T7, hbk, S7 _ _ (hnot hsa) (S5 _ _ hsa), S7 _ _ (hnot hka) (S5 _ _ hka), hsc, hbl, by omega, by omega, by omega, hkl, fun H8 s8 => ?_⟩
        refine ⟨p4, _, _, rfl, rfl, s8 _ _ e7, lim, acc ++ [sh kept k sc], _, rfl, (S7.trans s8.kp).trans kp_upd, ?_, fin H8 s8, by rw [List.length_append, l6]; rfl⟩
        show upd H8 p4 _ p4 = _
        rw [upd_same]
        show some (HO.lst ((unl (sc ++ kept) :: acc).map V.str ++ [V.str _])) = some (HO.lst ((unl (sc ++ kept) :: (acc ++ [_])).map V.str))
        rw [← List.cons_append, List.map_append]
        rfl
    · rintro σ H6 ⟨acc, x7, rfl, s6, e6, t6, l6⟩
      have e9 : ks.drop (((us.length : Nat) : Int).toNat) = [] := by rw [Int.toNat_natCast, k2.length, List.drop_length]
      rw [e9] at t6
      have t4 : acc = shL kept ks 0 (bpN z) sc (unl (sc ++ kept)) := by
        rw [← t6]
        exact (List.append_nil acc).symm
      refine ⟨_, rfl, q p4 H6 (fun c o hc => s6 _ _ (hnot hc) (S5 _ _ hc)) f5 ?_⟩
      unfold formWords
      rw [hbi, if_pos rfl, ← t4]
      exact e6
end
end KP
set_option Elab.async false
set_option linter.all false
set_option maxRecDepth 100000
set_option maxHeartbeats 4000000
/-! KpShown2: what is shown. -/
namespace KP
open PySem PySem.Spec PyProof.Rows L2
theorem figS_some {t : T} {n : Nat} (e : figN t = some n) : figS t = numT n := by unfold figS; rw [e]
theorem figS_none {t : T} (e : figN t = none) : figS t = "" := by unfold figS; rw [e]
/-- the words of a form are short -/
theorem form_len {kept : List Str} {z : Str} {ks : List T} {b : Bool} {sc : List Str} (hw : wf b (.nd z ks)) (hs : Sc sc kept (depth (.nd z ks))) (hb : below (.nd z ks) sc.length) (hd : depth (.nd z ks) ≤ 40) : lenL (z :: formWords kept z ks sc) ≤ 10 + 30 * knotsL ks := by
  have hw' := hw
  unfold wf at hw'
  obtain ⟨_, l, hl, hk⟩ := hw'
  have F := form_of hl
  unfold below at hb
  unfold depth at hs hd
  rw [Nat.add_comm] at hs
  have q := len_l kept ks l 0 (bpN z) sc hk hs hb (by omega)
  have h2 : lenL (if bindS z then [unl (sc ++ kept)] else []) ≤ 3 := by
    by_cases h2 : bindS z = true
    · rw [if_pos h2]
      have := (unl_good hs.unl).2
      show (unl (sc ++ kept)).length + 1 + 0 ≤ 3
      omega
    · rw [if_neg h2]
      exact Nat.zero_le _
  unfold formWords
  show z.length + 1 + lenL _ ≤ _
  rw [lenL_app]
  have := F.len
  omega
theorem told_sub : ∀ (f : List Str) (z y : Str), y ∈ addS z f ↔ y = z ∨ y ∈ f := fun f z y => by
  unfold addS
  split
  · rename_i h
    exact ⟨.inr, fun q => q.elim (fun e => e ▸ h) id⟩
  · rw [List.mem_append, List.mem_singleton]
    exact ⟨fun q => q.elim .inr .inl, fun q => q.elim .inr .inl⟩
mutual
theorem told_mem : ∀ (t : T) (f : List Str) (y : Str), y ∈ told t f ↔ y ∈ keptN t ∨ y ∈ f
  | .v _, f, y => by unfold told keptN; simp
  | .nm z, f, y => by unfold told keptN; rw [told_sub, List.mem_singleton]
  | .nd _ ks, f, y => by unfold told keptN; exact toldL_mem ks f y
theorem toldL_mem : ∀ (ks : List T) (f : List Str) (y : Str), y ∈ toldL ks f ↔ y ∈ keptL ks ∨ y ∈ f
  | [], f, y => by unfold toldL keptL; simp
  | k :: ks, f, y => by
    unfold toldL keptL
    rw [toldL_mem ks, told_mem k, List.mem_append]
    constructor
    · rintro (h | h | h)
      · exact .inl (.inr h)
      · exact .inl (.inl h)
      · exact .inr h
    · rintro ((h | h) | h)
      · exact .inr (.inl h)
      · exact .inl h
      · exact .inr (.inr h)
end
def spShown : Sp := fun vs H Q _ => ∃ (t : T) (b : Bool) (x : V) (na : Addr) (names : List Str), vs = [x, .ref na] ∧ At H t x ∧ wf b t ∧ Ls H na names ∧ Sc names (told t []) (depth t) ∧ below t names.length ∧
  depth t ≤ 40 ∧ knots t ≤ 600 ∧ ∀ H', Same H H' → Q (.str (sh (told t []) t names)) H'
section
variable {P : Program} {w : World} {K : PySem.W.Frag} {mg : Str → Option Value} {base : Heap}
abbrev n_shown_in : List Str := ["thing", "scope", "kept"]
theorem sc_shown_in : FnScope n_shown_in ["thing", "scope", "kept"] (defScope s_shown_in) := ⟨rfl, rfl, rfl, by decide +kernel, rfl, by decide +kernel, by decide +kernel⟩
theorem ok_shown_in (D : Def K mg "shown_in" s_shown_in ["thing", "scope", "kept"]) (G_figures_of : Good P w K mg base 1 "figures_of" ["thing"] spFig) {n m : Nat} (hm : 1 ≤ m) (G_shown_kids : Good P w K mg base m "shown_kids" ["thing", "scope", "kept"] (spShownKids n)) :
    Good P w K mg base (m + 1) "shown_in" ["thing", "scope", "kept"] (spShownIn (n + 1)) := by
  refine D.ok sc_shown_in (fun vs H Q E h => ?_) (fun cdv A outer s H vs Q E f hr h => ?_)
  · obtain ⟨t, b, x, sa, ka, sc, kept, rfl, _⟩ := h
    rfl
  obtain ⟨t, b, x, sa, ka, sc, kept, rfl, hx, hw, hsa, hka, hs, hb, hn, hd, hkn, hkl, q⟩ := h
  obtain ⟨a, xs, rfl, ha⟩ := hx.tup
  refine ⟨_, (pss_cons (ps_if (pt_cmpR op_eq (pe_ix ix_tup (pv 0) pe_int (fun _ _ => rfl)) pe_str (nomark _)) (pss_one (ps_ret (pe_ix ix_list (pv 1) (pe_ix ix_tup (pv 0) pe_int (fun _ _ => rfl)) (fun _ _ => rfl)))) pss_nil)
    (pss_cons (ps_if (pt_cmpR op_eq (pe_ix ix_tup (pv 0) pe_int (fun _ _ => rfl)) pe_str (nomark _)) (pss_one (ps_ret (pe_ix ix_tup (pv 0) pe_int (fun _ _ => rfl)))) pss_nil)
    (pss_cons (ps_if (pt_cmpR op_ne (gcall G_figures_of (hr.mono (by omega)) (pa_cons (pv 0) pa_nil)) pe_str (nomark _)) (pss_one (ps_ret (gcall G_figures_of (hr.mono (by omega)) (pa_cons (pv 0) pa_nil)))) pss_nil)
    (pss_cons (ps_if (PW.pt (pw_or (pt_cmpR op_eq (pe_ix ix_tup (pv 0) pe_int (fun _ _ => rfl)) pe_str (nomark _)) (pw_or1 (pt_cmpR op_eq (pe_ix ix_tup (pv 0) pe_int (fun _ _ => rfl)) pe_str (nomark _))))) (pss_one (ps_ret (pe_ix ix_tup (pv 0) pe_int (fun _ _ => rfl)))) pss_nil)
    (pss_one (ps_ret (pe_op op_add_str (pe_op op_add_str pe_str (pe_join pe_str (pe_op op_cat (pe_lst (pa_cons (pe_ix ix_tup (pv 0) pe_int (fun _ _ => rfl)) pa_nil)) (gcall G_shown_kids (hr.mono (by omega)) (pa_cons (pv 0) (pa_cons (pv 1) (pa_cons (pv 2) pa_nil))))))) pe_str))))))), ?_⟩
  cases t with
  | v k =>
    obtain ⟨a', e, ha'⟩ := hx.var
    cases e
    refine hd_eq (i := 0) rfl ha ⟨_, rfl, iteTc rfl ?_⟩
    unfold below at hb
    have hk : (sc.map V.str)[k]? = some (.str (sc.getD k "")) := by
      rw [List.getElem?_map, List.getD_eq_getElem?_getD, List.getElem?_eq_getElem hb]
      rfl
    refine ⟨_, rfl, _, rfl, a, _, _, _, rfl, rfl, SqT.of ha', at1, sa, _, _, _, rfl, rfl, SqL.of hsa, atI_nat hk, ?_⟩
    unfold sh at q
    exact q _ (Same.refl _)
  | nm z =>
    obtain ⟨a', e, ha'⟩ := hx.nam
    cases e
    refine hd_eq (i := 0) rfl ha ⟨_, rfl, iteFc (show decide (("name" : Str) = "var") = false by decide +kernel) ?_⟩
    refine hd_eq (i := 0) rfl ha ⟨_, rfl, iteTc rfl ?_⟩
    refine ⟨_, rfl, a, _, _, _, rfl, rfl, SqT.of ha', at1, ?_⟩
    unfold sh at q
    exact q _ (Same.refl _)
  | nd z ks =>
    obtain ⟨a', vs0, e, ha', hk0⟩ := hx.nod
    cases e
    refine hd_eq (i := 0) rfl ha ⟨_, rfl, iteFc (decide_eq_false (nodeOk_of hw).1) ?_⟩
    refine hd_eq (i := 0) rfl ha ⟨_, rfl, iteFc (decide_eq_false (nodeOk_of hw).2) ?_⟩
    refine ⟨_, rfl, _, b, _, rfl, hx, hw, by omega, fun H1 s1 => ⟨rfl, _, rfl, ?_⟩⟩
    cases e : figN (.nd z ks) with
    | some j =>
      obtain ⟨_, _, e3, _⟩ := figN_eq _ b j hw e
      have N := num_of (n := j) (by omega)
      rw [figS_some e]
      refine iteTc ?_ ?_
      · rw [decide_eq_false (fun e => plain_ne N.pl (V.str.inj e))]
        rfl
      rw [sh_fig e] at q
      refine ⟨_, rfl, _, b, _, rfl, hx.mono s1.tk, hw, by omega, fun H2 s2 => ?_⟩
      rw [figS_some e]
      exact q _ (s1.trans s2)
    | none =>
      rw [figS_none e]
      refine iteFc ?_ ?_
      · rw [decide_eq_true rfl]
        rfl
      have ha1 := s1 _ _ ha
      by_cases h1 : z = "nat" ∨ z = "none"
      · rw [sh_leaf e h1] at q
        refine hd_eq (i := 0) rfl ha1 ⟨_, rfl, ite2 (fun c => ?_) (fun c => ?_)⟩
        · refine iteT ?_
          exact ⟨_, rfl, a, _, _, _, rfl, rfl, SqT.of ha1, at0, q _ s1⟩
        · have c1 : z ≠ "nat" := of_decide_eq_false (Bool.eq_false_iff.mpr c)
          have c2 : z = "none" := h1.elim (fun e => absurd e c1) id
          refine hd_eq (i := 0) rfl ha1 ⟨_, rfl, iteTc (decide_eq_true c2) ?_⟩
          exact ⟨_, rfl, a, _, _, _, rfl, rfl, SqT.of ha1, at0, q _ s1⟩
      · rw [sh_form e h1] at q
        refine hd_eq (i := 0) rfl ha1 ⟨_, rfl, iteFc (decide_eq_false (fun e => h1 (.inl e))) ?_⟩
        refine hd_eq (i := 0) rfl ha1 ⟨_, rfl, iteFc (decide_eq_false (fun e => h1 (.inr e))) ?_⟩
        have hfl := form_len hw hs hb hd
        have hkk : knots (.nd z ks) = 1 + knotsL ks := rfl
        refine ⟨⟨_, rfl⟩, _, rfl, a, _, _, _, rfl, rfl, SqT.of ha1, at0, smallN (by show 1 ≤ 1000000; decide), fun p hp => ?_⟩
        have S2 : Same H (upd H1 p (.lst [V.str z])) := s1.trans (same_new hp _)
        refine ⟨_, rfl, _, rfl, _, rfl, z, ks, b, _, sa, ka, sc, kept, rfl, hx.mono S2.tk, hw, S2 _ _ hsa, S2 _ _ hka, hs, hb, hn, hd, hkn, hkl, fun l H3 s3 hl3 e3 => ?_⟩
        have ew : ([V.str (hdW (T.nd z ks))] : List V) ++ (formWords kept z ks sc).map V.str = (z :: formWords kept z ks sc).map V.str := rfl
        have hlen1 : (formWords kept z ks sc).length ≤ lenL (z :: formWords kept z ks sc) := by
          have := lenL_sum (z :: formWords kept z ks sc)
          rw [List.length_cons] at this
          omega
        refine ⟨p, l, _, _, rfl, rfl, s3 _ _ upd_same, e3, ?_, fun p2 hp2 => ?_⟩
        · rw [List.length_map]
          show 1 + _ ≤ sizeLine
          exact smallN (by omega)
        rw [ew]
        have hjl : (spJoin (z :: formWords kept z ks sc)).length ≤ lenL (z :: formWords kept z ks sc) := len_join _
        refine ⟨" ", p2, _, rfl, rfl, .inl (SqL.of upd_same), ?_, ?_⟩
        · have h8 : (" " : Str).length = 1 := by decide +kernel
          rw [h8, lenL_sum]
          omega
        rw [TL.join_eq]
        refine ⟨_, _, rfl, rfl, ?_, _, _, rfl, rfl, ?_, ?_⟩
        · show (1 : Nat) + (spJoin (z :: formWords kept z ks sc)).length ≤ sizeLine
          exact smallN (by omega)
        · rw [len_app]
          show (1 : Nat) + (spJoin (z :: formWords kept z ks sc)).length + 1 ≤ sizeLine
          exact smallN (by omega)
        · exact q _ (S2.trans (s3.trans (same_new hp2 _)))
theorem ok_shown_all (Di : Def K mg "shown_in" s_shown_in ["thing", "scope", "kept"]) (Dk : Def K mg "shown_kids" s_shown_kids ["thing", "scope", "kept"]) (Z : Blt mg) (G_figures_of : Good P w K mg base 1 "figures_of" ["thing"] spFig) (G_kids_of : Good P w K mg base 1 "kids_of" ["thing"] spKids)
    (G_names_one : Good P w K mg base 1 "names_one" ["word"] spBinds) (G_bound_part : Good P w K mg base 1 "bound_part" ["word"] spBound) (G_unlike_word : Good P w K mg base 6 "unlike_word" ["taken"] (spUnlike K)) : ∀ n : Nat, Good P w K mg base (2 * n + 6) "shown_in" ["thing", "scope", "kept"] (spShownIn n)
  | 0 => Good.none Di fun vs H Q E h => by
    obtain ⟨t, b, x, sa, ka, sc, kept, _, _, _, _, _, _, _, h0, _⟩ := h
    have := depth_kids t
    omega
  | n + 1 => by
    have ih := ok_shown_all Di Dk Z G_figures_of G_kids_of G_names_one G_bound_part G_unlike_word n
    have hk := ok_shown_kids Dk Z G_kids_of G_names_one G_bound_part G_unlike_word (by omega) ih
    exact ok_shown_in Di G_figures_of (by omega) hk
abbrev n_shown : List Str := ["thing", "names", "found"]
theorem sc_shown : FnScope n_shown ["thing", "names"] (defScope s_shown) := ⟨rfl, rfl, rfl, by decide +kernel, rfl, by decide +kernel, by decide +kernel⟩
theorem ok_shown (D : Def K mg "shown" s_shown ["thing", "names"]) (Z : Blt mg) (G_free_in : Good P w K mg base 44 "free_in" ["thing"] spFree) (G_told_names : Good P w K mg base 42 "told_names" ["thing", "found"] (spTold 41)) (G_shown_in : Good P w K mg base 86 "shown_in" ["thing", "scope", "kept"] (spShownIn 40)) :
    Good P w K mg base 87 "shown" ["thing", "names"] spShown := by
  refine D.ok sc_shown (fun vs H Q E h => ?_) (fun cdv A outer s H vs Q E f hr h => ?_)
  · obtain ⟨t, b, x, na, names, rfl, _⟩ := h
    rfl
  obtain ⟨t, b, x, na, names, rfl, hx, hw, hna, hs, hb, hd, hkn, q⟩ := h
  refine ⟨_, (pss_cons (ps_if (pt_cmpR op_ge (pe_callBK (cr_maxD hr rfl) (by rfl) Z.max (by decide +kernel) (pa_cons (gcall G_free_in (hr.mono (by omega)) (pa_cons (pv 0) pa_nil)) pa_nil) (pk_cons (pe_un un_neg pe_int) pk_nil)) (pe_callB call_len_seq (by rfl) Z.len (by decide +kernel) (pa_cons (pv 1) pa_nil)) (nomark _)) (pss_one ps_never) pss_nil)
    (pss_cons (ps_set (i := 2) sc_shown.nd rfl (Or.inl rfl) pe_dnewK)
    (pss_cons (ps_expr (gcall G_told_names (hr.mono (by omega)) (pa_cons (pv 0) (pa_cons (pv 2) pa_nil))))
    (pss_one (ps_ret (gcall G_shown_in (hr.mono (by omega)) (pa_cons (pv 0) (pa_cons (pe_callTy call_list_of (by rfl) Z.list (by decide +kernel) (pa_cons (pv 1) pa_nil)) (pa_cons (pe_callTy (call_list_dK rfl) (by rfl) Z.list (by decide +kernel) (pa_cons (pv 2) pa_nil)) pa_nil))))))))), ?_⟩
  refine ⟨_, rfl, t, b, x, names.length, rfl, hx, hw, hb, by omega, by omega, fun l ns H1 s1 hl e1 g1 => ?_⟩
  have hna1 : Ls H1 na names := s1 _ _ hna
  have rest : ∀ m : Int, m < (names.length : Int) → (if decide ((((names.map V.str).length : Nat) : Int) ≤ m) = true then False else tSeq (tAsg tDNewK (gName 2)) (tSeq (tDrop (tCall (spTold 41) [] E0 (tCons (tVar 0) (tCons (tVar 2) tNil)))) (tRet (tCall (spShownIn 40) [] E0
      (tCons (tVar 0) (tCons (tCB (fun xs H Q => ∃ p ys, xs = [.ref p] ∧ (SqL K H p ys ∨ SqT K H p ys) ∧ ∀ l, H l = none → Q (.ref l) (upd H l (.lst ys))) (tCons (tVar 1) tNil)) (tCons (tCB rListD (tCons (tVar 2) tNil)) tNil)))))) { nx := fun _ H' => Q .non H', rt := Q } (L2.start n_shown [x, V.ref na]) H1) := by
    intro m hm
    refine iteFc (decide_eq_false (by rw [List.length_map]; omega)) ?_
    intro p hp
    have S2 : Same H (upd H1 p (.dK [])) := s1.trans (same_new hp _)
    refine ⟨_, rfl, _, rfl, t, b, x, p, [], rfl, hx.mono S2.tk, hw, by omega, upd_same, by rw [List.length_nil]; omega, fun H2 s2 e2 => ?_⟩
    have S3 : Same H H2 := fun c o hc => s2 c o (ne_of_none (s1 _ _ hc) hp) (S2 c o hc)
    refine ⟨_, rfl, _, rfl, na, _, rfl, .inl (SqL.of (S3 _ _ hna)), fun l2 hl2 => ?_⟩
    have S4 : Same H (upd H2 l2 (.lst (names.map V.str))) := S3.trans (same_new hl2 _)
    have np : p ≠ l2 := ne_of_none e2 hl2
    refine ⟨_, rfl, p, _, rfl, by rw [upd_ne np]; exact e2, fun l3 hl3 => ?_⟩
    have ek : ((dk (told t [])).map fun kv => kV kv.1) = (told t []).map V.str := by
      unfold dk
      rw [List.map_map]
      rfl
    rw [ek]
    have S5 := S4.trans (same_new hl3 (.lst ((told t []).map V.str)))
    have n23 : l2 ≠ l3 := ne_of_none (o := .lst (names.map V.str)) upd_same hl3
    have htl := told_len t []
    rw [List.length_nil] at htl
    refine ⟨t, b, x, l2, l3, names, told t [], rfl, hx.mono S5.tk, hw, ?_, upd_same, hs, hb, by omega, hd, hkn, by omega, fun H6 s6 => q _ (S5.trans s6)⟩
    show upd _ l3 _ l2 = _
    rw [upd_ne n23]
    exact upd_same
  refine ⟨1, rfl, l, ns, -1, rfl, rfl, SqL.of e1, fun e0 => ?_, fun m hm => ?_⟩
  · refine ⟨_, rfl, na, _, rfl, .inl (SqL.of hna1), _, _, rfl, rfl, _, rfl, ?_⟩
    exact rest (-1) (by omega)
  · refine ⟨_, rfl, na, _, rfl, .inl (SqL.of hna1), _, _, rfl, rfl, _, rfl, ?_⟩
    exact rest m (g1 m hm)
end
end KP
set_option Elab.async false
set_option linter.all false
set_option maxRecDepth 100000
set_option maxHeartbeats 4000000
/-! KpPart: the classes Form and Part, and the defs that make parts. -/
namespace KP
open PySem PySem.Spec PyProof.Rows L2
/-! ### attributes -/
theorem fld_ne : ¬ ("word" : Str) = "binder" ∧ ¬ ("word" : Str) = "parts" ∧ ¬ ("binder" : Str) = "parts" ∧ ¬ ("binder" : Str) = "word" ∧ ¬ ("thing" : Str) = "word" ∧ ¬ ("thing" : Str) = "knots" ∧ ¬ ("thing" : Str) = "levels" ∧ ¬ ("word" : Str) = "knots" ∧
    ¬ ("word" : Str) = "levels" ∧ ¬ ("knots" : Str) = "levels" := by decide +kernel
def fF (w b : Str) (l : Addr) : List (Str × V) := putF "parts" (.ref l) (putF "binder" (.str b) (putF "word" (.str w) []))
theorem fF_eq (w b : Str) (l : Addr) : fF w b l = ([("word", .str w), ("binder", .str b), ("parts", .ref l)] : List (Str × V)) := by
  unfold fF
  show putF "parts" (.ref l) (if ("word" : Str) = "binder" then _ else (("word" : Str), V.str w) :: putF "binder" (.str b) []) = _
  rw [if_neg fld_ne.1]
  show (if ("word" : Str) = "parts" then _ else (("word" : Str), V.str w) :: (if ("binder" : Str) = "parts" then _ else (("binder" : Str), V.str b) :: putF "parts" (.ref l) [])) = _
  rw [if_neg fld_ne.2.1, if_neg fld_ne.2.2.1]
  all_goals rfl
theorem fF_len (w b : Str) (l : Addr) : (fF w b l).length < 1000 := by rw [fF_eq]; show 3 < 1000; decide
theorem fF_word (w b : Str) (l : Addr) : (fF w b l).lookup ("word" : Str) = some (.str w) := by
  unfold fF
  rw [lookup_putF, if_neg fld_ne.2.1, lookup_putF, if_neg fld_ne.1, lookup_putF, if_pos rfl]
theorem fF_binder (w b : Str) (l : Addr) : (fF w b l).lookup ("binder" : Str) = some (.str b) := by
  unfold fF
  rw [lookup_putF, if_neg fld_ne.2.2.1, lookup_putF, if_pos rfl]
theorem fF_parts (w b : Str) (l : Addr) : (fF w b l).lookup ("parts" : Str) = some (.ref l) := by
  unfold fF
  rw [lookup_putF, if_pos rfl]
theorem fF_setW (w z b : Str) (l : Addr) : putF "word" (.str z) (fF w b l) = fF z b l := by
  rw [fF_eq, fF_eq]
  show (if ("word" : Str) = "word" then (("word" : Str), V.str z) :: _ else _) = _
  rw [if_pos rfl]
theorem fF_setB (w z b : Str) (l : Addr) : putF "binder" (.str z) (fF w b l) = fF w z l := by
  rw [fF_eq, fF_eq]
  show (if ("word" : Str) = "binder" then _ else (("word" : Str), V.str w) :: (if ("binder" : Str) = "binder" then (("binder" : Str), V.str z) :: [(("parts" : Str), V.ref l)] else _)) = _
  rw [if_neg fld_ne.1, if_pos rfl]
def pF (v : V) (w : Str) (kn lv : Int) : List (Str × V) := putF "levels" (.int lv) (putF "knots" (.int kn) (putF "word" (.str w) (putF "thing" v [])))
theorem pF_thing (v : V) (w : Str) (kn lv : Int) : (pF v w kn lv).lookup ("thing" : Str) = some v := by
  unfold pF
  rw [lookup_putF, if_neg fld_ne.2.2.2.2.2.2.1, lookup_putF, if_neg fld_ne.2.2.2.2.2.1, lookup_putF, if_neg fld_ne.2.2.2.2.1, lookup_putF, if_pos rfl]
theorem pF_word (v : V) (w : Str) (kn lv : Int) : (pF v w kn lv).lookup ("word" : Str) = some (.str w) := by
  unfold pF
  rw [lookup_putF, if_neg fld_ne.2.2.2.2.2.2.2.2.1, lookup_putF, if_neg fld_ne.2.2.2.2.2.2.2.1, lookup_putF, if_pos rfl]
theorem pF_knots (v : V) (w : Str) (kn lv : Int) : (pF v w kn lv).lookup ("knots" : Str) = some (.int kn) := by
  unfold pF
  rw [lookup_putF, if_neg fld_ne.2.2.2.2.2.2.2.2.2, lookup_putF, if_pos rfl]
theorem pF_levels (v : V) (w : Str) (kn lv : Int) : (pF v w kn lv).lookup ("levels" : Str) = some (.int lv) := by
  unfold pF
  rw [lookup_putF, if_pos rfl]
theorem len_put1 (f : Str) (v : V) (fs : List (Str × V)) (n : Nat) (h : fs.length ≤ n) : (putF f v fs).length ≤ n + 1 := Nat.le_trans (length_putF f v fs) (Nat.add_le_add_right h 1)
/-- a part stands there -/
def PartAt (CP : Addr) (H : Hp) (x : V) (p : PM) : Prop := ∃ a dx v, x = .ref a ∧ H a = some (.ins CP dx (pF v p.w (p.kn : Int) (p.lv : Int))) ∧ At H p.t v
theorem PartAt.mono {CP : Addr} {H H' : Hp} {x : V} {p : PM} (h : PartAt CP H x p) (s : Same H H') : PartAt CP H' x p := by
  obtain ⟨a, dx, v, e, h1, h2⟩ := h
  exact ⟨a, dx, v, e, s _ _ h1, h2.mono s.tk⟩
/-- behind a change of a list or a form -/
theorem PartAt.kp {CP : Addr} {H H' : Hp} {x : V} {p : PM} {d : Addr} {o : HO} (h : PartAt CP H x p) (s : Kp d H H') (hd : H d = some o) (n : ∀ xs, o ≠ .tup xs) (n2 : ∀ dx fs, o ≠ .ins CP dx fs) : PartAt CP H' x p := by
  obtain ⟨a, dx, v, e, h1, h2⟩ := h
  refine ⟨a, dx, v, e, s _ _ ?_ h1, h2.mono (s.tk hd n)⟩
  intro e2
  subst e2
  rw [hd] at h1
  exact n2 _ _ (Option.some.inj h1)
def PartsAt (CP : Addr) (H : Hp) : List PM → List V → Prop
  | [], us => us = []
  | p :: ps, us => ∃ u r, us = u :: r ∧ PartAt CP H u p ∧ PartsAt CP H ps r
theorem PartsAt.mono {CP : Addr} {H H' : Hp} (s : Same H H') : ∀ {ps : List PM} {us : List V}, PartsAt CP H ps us → PartsAt CP H' ps us
  | [], us, h => h
  | p :: ps, us, h => by
    obtain ⟨u, r, e, h1, h2⟩ := h
    exact ⟨u, r, e, h1.mono s, PartsAt.mono s h2⟩
theorem PartsAt.kp {CP : Addr} {H H' : Hp} {d : Addr} {o : HO} (s : Kp d H H') (hd : H d = some o) (n : ∀ xs, o ≠ .tup xs) (n2 : ∀ dx fs, o ≠ .ins CP dx fs) : ∀ {ps : List PM} {us : List V}, PartsAt CP H ps us → PartsAt CP H' ps us
  | [], us, h => h
  | p :: ps, us, h => by
    obtain ⟨u, r, e, h1, h2⟩ := h
    exact ⟨u, r, e, h1.kp s hd n n2, PartsAt.kp s hd n n2 h2⟩
theorem PartsAt.length {CP : Addr} {H : Hp} : ∀ {ps : List PM} {us : List V}, PartsAt CP H ps us → us.length = ps.length
  | [], us, h => by
    have e : us = [] := h
    rw [e]
    rfl
  | p :: ps, us, h => by
    obtain ⟨u, r, e, h1, h2⟩ := h
    rw [e, List.length_cons, List.length_cons, PartsAt.length h2]
theorem PartsAt.get {CP : Addr} {H : Hp} : ∀ {ps : List PM} {us : List V} {i : Nat} {u : V}, PartsAt CP H ps us → us[i]? = some u → ∃ p, ps[i]? = some p ∧ PartAt CP H u p
  | [], us, i, u, h, e => by
    have e2 : us = [] := h
    rw [e2] at e
    simp at e
  | p :: ps, us, i, u, h, e => by
    obtain ⟨u0, r, e0, h1, h2⟩ := h
    subst e0
    cases i with
    | zero =>
      have e2 : u0 = u := by simpa using e
      subst e2
      exact ⟨p, rfl, h1⟩
    | succ i =>
      obtain ⟨q, e3, h3⟩ := PartsAt.get (i := i) h2 (by simpa using e)
      exact ⟨q, by simpa using e3, h3⟩
theorem PartsAt.snoc {CP : Addr} {H : Hp} : ∀ {ps : List PM} {us : List V} {x : V} {p : PM}, PartsAt CP H ps us → PartAt CP H x p → PartsAt CP H (ps ++ [p]) (us ++ [x])
  | [], us, x, p, h, hx => by
    have e2 : us = [] := h
    subst e2
    exact ⟨x, [], rfl, hx, rfl⟩
  | q :: ps, us, x, p, h, hx => by
    obtain ⟨u0, r, e0, h1, h2⟩ := h
    subst e0
    exact ⟨u0, r ++ [x], rfl, h1, PartsAt.snoc h2 hx⟩
/-- the things of the parts -/
theorem PartsAt.things {CP : Addr} {H : Hp} : ∀ {ps : List PM} {us : List V} {vs : List V}, PartsAt CP H ps us → vs.length = us.length → (∀ (i : Nat) (u : V), us[i]? = some u → ∃ a dx v w kn lv, u = .ref a ∧ H a = some (.ins CP dx (pF v w kn lv)) ∧ vs[i]? = some v) → AtL H (ps.map (·.t)) vs
  | [], us, vs, h, hl, hv => by
    have e2 : us = [] := h
    subst e2
    have e3 : vs = [] := List.eq_nil_of_length_eq_zero hl
    subst e3
    exact .nil
  | p :: ps, us, vs, h, hl, hv => by
    obtain ⟨u0, r, e0, ⟨a, dx, v, e1, h1, h3⟩, h2⟩ := h
    subst e0
    cases vs with
    | nil => simp at hl
    | cons v0 vs =>
      obtain ⟨a', dx', v', w', kn', lv', e4, h4, e5⟩ := hv 0 u0 rfl
      rw [e1] at e4
      cases e4
      rw [h1] at h4
      have e6 : v = v' := by
        have q := Option.some.inj h4
        injection q with _ _ q
        have q2 := congrArg (fun fs => List.lookup ("thing" : Str) fs) q
        rw [pF_thing, pF_thing] at q2
        exact Option.some.inj q2
      have e7 : v0 = v' := by simpa using e5
      rw [e7, ← e6]
      exact .cons h3 (PartsAt.things h2 (by simpa using hl) fun i u hu => by
        obtain ⟨a, dx, v, w, kn, lv, q1, q2, q3⟩ := hv (i + 1) u (by simpa using hu)
        exact ⟨a, dx, v, w, kn, lv, q1, q2, by simpa using q3⟩)
/-! ### the promises -/
def spPartInit (CP : Addr) : Sp := fun vs H Q _ => ∃ (x dx : Addr) (v : V) (w : Str) (kn lv : Int), vs = [.ref x, v, .str w, .int kn, .int lv] ∧ H x = some (.ins CP dx []) ∧ ∀ H', Kp x H H' → H' x = some (.ins CP dx (pF v w kn lv)) → Q .non H'
def spFormInit (CF : Addr) : Sp := fun vs H Q _ => ∃ (x dx : Addr), vs = [.ref x] ∧ H x = some (.ins CF dx []) ∧ ∀ l H', Kp x H H' → H l = none → H' x = some (.ins CF dx (fF "" "" l)) → H' l = some (.lst []) → Q .non H'
/-- the classes as they stand behind the top -/
structure Cl (P : Program) (w : World) (K : PySem.W.Frag) (mg : Str → Option Value) (base : Heap) (CF CP : Addr) : Prop where
  clF : Cls K CF
  clP : Cls K CP
  nFw : NoAttr K CF "word"
  nFb : NoAttr K CF "binder"
  nFp : NoAttr K CF "parts"
  nPt : NoAttr K CP "thing"
  nPw : NoAttr K CP "word"
  nPk : NoAttr K CP "knots"
  nPl : NoAttr K CP "levels"
  mgF : mg "Form" = some (.ref CF)
  mgP : mg "Part" = some (.ref CP)
  ne : CF ≠ CP
  mkF : ∃ f fd, Mk K CF f ∧ FnOk P w K mg base CX0 1 f fd ["self"] (spFormInit CF) ∧ Binds K fd ["self"] []
  mkP : ∃ f fd, Mk K CP f ∧ FnOk P w K mg base CX0 1 f fd ["self", "thing", "word", "knots", "levels"] (spPartInit CP) ∧ Binds K fd ["self", "thing", "word", "knots", "levels"] []
/-- what a call of Part gives -/
theorem made_part {CP x dx : Addr} {H : Hp} {t : T} {v : V} {z : Str} {kn lv : Nat} {Q : VK} (hx : H x = none) (hdx : H dx = none) (hv : At H t v) (q : ∀ (y : V) (H' : Hp), Same H H' → PartAt CP H' y ⟨t, z, kn, lv⟩ → Q y H') :
    spPartInit CP (.ref x :: ([v, .str z, .int (kn : Int), .int (lv : Int)] ++ [])) (upd (upd H dx (.own x)) x (.ins CP dx [])) (fun u H2 => u = .non ∧ Q (.ref x) H2) E0 := by
  refine ⟨x, dx, v, z, kn, lv, rfl, upd_same, fun H' k1 e1 => ⟨rfl, ?_⟩⟩
  have S : Same H H' := fun b o hb => k1 b o (ne_of_none hb hx) (by rw [upd_ne (ne_of_none hb hx), upd_ne (ne_of_none hb hdx)]; exact hb)
  exact q _ _ S ⟨x, dx, v, rfl, e1, hv.mono S.tk⟩
section
variable {P : Program} {w : World} {K : PySem.W.Frag} {mg : Str → Option Value} {base : Heap}
abbrev n_Form : List Str := ["self"]
theorem sc_Form : FnScope n_Form ["self"] (defScope s_Form) := ⟨rfl, rfl, rfl, by decide +kernel, rfl, by decide +kernel, by decide +kernel⟩
theorem ok_Form {CF f : Addr} {fd : FuncData} (F : FunD K "__init__" "Form.__init__" (defArgs s_Form) (defBody s_Form) (defScope s_Form) [] [] f fd) (clF : Cls K CF) (nFw : NoAttr K CF "word") (nFb : NoAttr K CF "binder") (nFp : NoAttr K CF "parts") :
    FnOk P w K mg base CX0 1 f fd ["self"] (spFormInit CF) := by
  refine F.ok sc_Form (fun vs H Q E h => ?_) (fun cdv A outer s H vs Q E hr h => ?_)
  · obtain ⟨x, dx, rfl, _⟩ := h
    rfl
  obtain ⟨x, dx, rfl, hx, q⟩ := h
  suffices hh : ∃ t, PSs (cxOf CX0 P w K mg base n_Form "Form.__init__" (defScope s_Form) f cdv A outer s H E).nox (defBody s_Form) t ∧ t { nx := fun _ H' => Q .non H', rt := Q } (L2.start n_Form [V.ref x]) H by
    obtain ⟨t, h1, h2⟩ := hh
    exact ⟨t, h1.nox, h2⟩
  refine ⟨_, (pss_cons (ps_fld (pv 0) pe_str rfl)
    (pss_cons (ps_fld (pv 0) pe_str rfl)
    (pss_one (ps_fld (pv 0) (pe_lst pa_nil) rfl)))), ?_⟩
  refine ⟨_, rfl, x, CF, dx, _, rfl, hx, clF, nFw, (by show 0 < 1000; decide), ?_⟩
  refine ⟨_, rfl, x, CF, dx, _, rfl, upd_same, clF, nFb, (by show 1 < 1000; decide), ?_⟩
  rw [upd_upd]
  refine ⟨Nat.zero_le _, fun l hl => ?_⟩
  have nxl : x ≠ l := ne_of_none (o := .ins CF dx _) upd_same hl
  refine ⟨_, rfl, x, CF, dx, _, rfl, by rw [upd_ne nxl]; exact upd_same, clF, nFp, ?_, ?_⟩
  · have h1 := len_put1 "word" (V.str "") [] 0 (Nat.le_refl _)
    have h2 := len_put1 "binder" (V.str "") _ _ h1
    omega
  · refine q l _ (fun b o nb hb => ?_) ?_ upd_same ?_
    · have nl : b ≠ l := fun e => by
        subst e
        rw [upd_ne nb, hb] at hl
        cases hl
      rw [upd_ne nb, upd_ne nl, upd_ne nb]
      exact hb
    · rw [upd_ne (Ne.symm nxl)] at hl
      exact hl
    · rw [upd_ne (Ne.symm nxl), upd_same]
abbrev n_Part : List Str := ["self", "thing", "word", "knots", "levels"]
theorem sc_Part : FnScope n_Part ["self", "thing", "word", "knots", "levels"] (defScope s_Part) := ⟨rfl, rfl, rfl, by decide +kernel, rfl, by decide +kernel, by decide +kernel⟩
theorem ok_Part {CP f : Addr} {fd : FuncData} (F : FunD K "__init__" "Part.__init__" (defArgs s_Part) (defBody s_Part) (defScope s_Part) [] [] f fd) (clP : Cls K CP) (nPt : NoAttr K CP "thing") (nPw : NoAttr K CP "word") (nPk : NoAttr K CP "knots") (nPl : NoAttr K CP "levels") :
    FnOk P w K mg base CX0 1 f fd ["self", "thing", "word", "knots", "levels"] (spPartInit CP) := by
  refine F.ok sc_Part (fun vs H Q E h => ?_) (fun cdv A outer s H vs Q E hr h => ?_)
  · obtain ⟨x, dx, v, z, kn, lv, rfl, _⟩ := h
    rfl
  obtain ⟨x, dx, v, z, kn, lv, rfl, hx, q⟩ := h
  suffices hh : ∃ t, PSs (cxOf CX0 P w K mg base n_Part "Part.__init__" (defScope s_Part) f cdv A outer s H E).nox (defBody s_Part) t ∧ t { nx := fun _ H' => Q .non H', rt := Q } (L2.start n_Part [V.ref x, v, .str z, .int kn, .int lv]) H by
    obtain ⟨t, h1, h2⟩ := hh
    exact ⟨t, h1.nox, h2⟩
  refine ⟨_, (pss_cons (ps_fld (pv 0) (pv 1) rfl)
    (pss_cons (ps_fld (pv 0) (pv 2) rfl)
    (pss_cons (ps_fld (pv 0) (pv 3) rfl)
    (pss_one (ps_fld (pv 0) (pv 4) rfl))))), ?_⟩
  have h1 := len_put1 "thing" v [] 0 (Nat.le_refl _)
  have h2 := len_put1 "word" (V.str z) _ _ h1
  have h3 := len_put1 "knots" (V.int kn) _ _ h2
  refine ⟨_, rfl, _, rfl, x, CP, dx, _, rfl, hx, clP, nPt, (by show 0 < 1000; decide), ?_⟩
  refine ⟨_, rfl, _, rfl, x, CP, dx, _, rfl, upd_same, clP, nPw, by omega, ?_⟩
  refine ⟨_, rfl, _, rfl, x, CP, dx, _, rfl, upd_same, clP, nPk, by omega, ?_⟩
  refine ⟨_, rfl, _, rfl, x, CP, dx, _, rfl, upd_same, clP, nPl, by omega, ?_⟩
  rw [upd_upd, upd_upd, upd_upd]
  exact q _ kp_upd upd_same
end
end KP
set_option Elab.async false
set_option linter.all false
set_option maxRecDepth 100000
set_option maxHeartbeats 4000000
/-! KpRead1: words of a text, parts. -/
namespace KP
open PySem PySem.Spec PyProof.Rows L2
/-- a list of texts stands at a -/
def Lst (H : Hp) (a : Addr) (ws : List Str) : Prop := H a = some (.lst (ws.map V.str))
def numC (n : Nat) : Bool := (TL.tl (numT n)).all (fun c => decide (c ∈ TL.tl ("0123456789" : Str))) && (decide (1 ≤ (numT n).length) && (decide ((numT n).length = 2 → (TL.tl (numT n)).getD 0 0 ≠ 48)))
theorem numC_all : ∀ n ∈ List.range 40, numC n = true := by decide +kernel
theorem idx_ahead {z : Str} : ∀ {ws : List Str} {m : Nat} {y : Str}, m < ws.idxOf z → ws[m]? = some y → y ≠ z
  | [], m, y, h, e => by simp at e
  | x :: ws, m, y, h, e => by
    rw [List.idxOf_cons] at h
    by_cases c : x = z
    · rw [show (x == z) = true from beq_iff_eq.mpr c] at h
      exact absurd h (Nat.not_lt_zero _)
    · rw [show (x == z) = false from beq_eq_false_iff_ne.mpr c] at h
      cases m with
      | zero =>
        have e2 : x = y := by simpa using e
        rw [← e2]
        exact c
      | succ m =>
        refine idx_ahead (m := m) (ws := ws) ?_ (by simpa using e)
        have h2 : m + 1 < ws.idxOf z + 1 := h
        omega
/-! ### the promises -/
def spNumber : Sp := fun vs H Q _ => ∃ n : Nat, vs = [.str (numT n)] ∧ n < 40 ∧ Q (.int (n : Int)) H
def spWords : Sp := fun vs H Q _ => ∃ z : Str, vs = [.str z] ∧ z.length ≤ 1000000 ∧ ∀ (l : Addr) (H' : Hp), Same H H' → H l = none → Lst H' l (wordsS z) → Q (.ref l) H'
def spVarPart (CP : Addr) : Sp := fun vs H Q _ => ∃ n : Nat, vs = [.int (n : Int)] ∧ n ≤ 99 ∧ ∀ (y : V) (H' : Hp), Same H H' → PartAt CP H' y ⟨.v n, "var", 1, 1⟩ → Q y H'
def spFigPart (CP : Addr) : Sp := fun vs H Q _ => ∃ n : Nat, vs = [.int (n : Int)] ∧ n < 40 ∧ ∀ (y : V) (H' : Hp), Same H H' → PartAt CP H' y ⟨figT n, "zero", n + 1, n + 1⟩ → Q y H'
def spPartOf (CP : Addr) : Sp := fun vs H Q _ => ∃ (z : Str) (l : Addr) (us : List V) (ps : List PM), vs = [.str z, .ref l] ∧ H l = some (.lst us) ∧ PartsAt CP H ps us ∧ ps ≠ [] ∧ ps.length ≤ 1000 ∧ 1 + sumK ps ≤ 600 ∧ 1 + maxL ps ≤ 40 ∧
  ∀ (y : V) (H' : Hp), Same H H' → PartAt CP H' y ⟨.nd z (ps.map (·.t)), z, 1 + sumK ps, 1 + maxL ps⟩ → Q y H'
theorem sumK_int : ∀ ps : List PM, (ps.map fun p => (p.kn : Int)).sum = (sumK ps : Int)
  | [] => rfl
  | p :: ps => by
    have ih := sumK_int ps
    unfold sumK at ih ⊢
    rw [List.map_cons, List.sum_cons, List.map_cons, List.sum_cons, ih]
    omega
theorem maxL_int : ∀ ps : List PM, ∀ m : Int, m ∈ (ps.map fun p => (p.lv : Int)) → (∀ y, y ∈ (ps.map fun p => (p.lv : Int)) → y ≤ m) → m = (maxL ps : Int) := by
  have ge : ∀ ps : List PM, ∀ p ∈ ps, p.lv ≤ maxL ps := by
    intro ps
    induction ps with
    | nil => intro p hp; cases hp
    | cons q ps ih =>
      intro p hp
      have e : maxL (q :: ps) = max q.lv (maxL ps) := rfl
      rcases List.mem_cons.mp hp with rfl | hp
      · omega
      · have := ih p hp
        omega
  have mem : ∀ ps : List PM, ps ≠ [] → ∃ p ∈ ps, p.lv = maxL ps := by
    intro ps
    induction ps with
    | nil => intro h; exact absurd rfl h
    | cons q ps ih =>
      intro _
      have e : maxL (q :: ps) = max q.lv (maxL ps) := rfl
      by_cases c : ps = []
      · subst c
        exact ⟨q, List.mem_cons_self, by rw [e]; show q.lv = max q.lv 0; omega⟩
      · obtain ⟨p, hp, h2⟩ := ih c
        by_cases d : maxL ps ≤ q.lv
        · exact ⟨q, List.mem_cons_self, by rw [e]; omega⟩
        · exact ⟨p, List.mem_cons_of_mem _ hp, by rw [e]; omega⟩
  intro ps m hm hle
  obtain ⟨p, hp, e⟩ := List.mem_map.mp hm
  have h1 := ge ps p hp
  obtain ⟨q, hq, e2⟩ := mem ps (fun e => by rw [e] at hp; cases hp)
  have h2 := hle (q.lv : Int) (List.mem_map.mpr ⟨q, hq, rfl⟩)
  omega
section
variable {P : Program} {w : World} {K : PySem.W.Frag} {mg : Str → Option Value} {base : Heap}
abbrev n_number_of : List Str := ["word", "sign"]
theorem sc_number_of : FnScope n_number_of ["word"] (defScope s_number_of) := ⟨rfl, rfl, rfl, by decide +kernel, rfl, by decide +kernel, by decide +kernel⟩
theorem ok_number_of (D : Def K mg "number_of" s_number_of ["word"]) (Z : Blt mg) : Good P w K mg base 1 "number_of" ["word"] spNumber := by
  refine D.ok sc_number_of (fun vs H Q E h => ?_) (fun cdv A outer s H vs Q E f hr h => ?_)
  · obtain ⟨n, rfl, _⟩ := h
    rfl
  obtain ⟨n, rfl, hn, q⟩ := h
  have N := num_of hn
  have C := numC_all n (List.mem_range.mpr hn)
  unfold numC at C
  simp only [Bool.and_eq_true, decide_eq_true_eq, List.all_eq_true] at C
  obtain ⟨c1, c2, c3⟩ := C
  have hl := N.len
  have hint : PySem.intText? (numT n) = some (n : Int) := TL.int_num (by rw [← TL.tl_num, ← TL.len_tl]; exact Nat.le_trans hl (by decide))
  refine ⟨_, (pss_cons (ps_for PassesOwn.never rfl (pi_str (pv 0)) (pg_name (i := 1) sc_number_of.nd rfl (Or.inl rfl)) (pss_one (ps_if (pt_cmpR op_notIn_sign (pv 1) pe_str (by rfl)) (pss_one (ps_ret pe_non)) pss_nil)))
    (pss_cons (ps_if (PW.pt (pw_or (pt_cmpR op_gt (pe_callB call_len_str (by rfl) Z.len (by decide +kernel) (pa_cons (pv 0) pa_nil)) pe_int (nomark _)) (pw_or (PW.pt (pw_and (pt_cmpR op_eq (pe_callB call_len_str (by rfl) Z.len (by decide +kernel) (pa_cons (pv 0) pa_nil)) pe_int (nomark _)) (pw_and1 (pt_cmpR op_eq (pe_ix ix_str (pv 0) pe_int (fun _ _ => rfl)) pe_str (nomark _))))) (pw_or1 (pt_cmpR op_gt (pe_callTy call_int_str (by rfl) Z.int (by decide +kernel) (pa_cons (pv 0) pa_nil)) pe_int (nomark _)))))) (pss_one (ps_ret pe_non)) pss_nil)
    (pss_one (ps_ret (pe_callTy call_int_str (by rfl) Z.int (by decide +kernel) (pa_cons (pv 0) pa_nil)))))), ?_⟩
  refine ⟨_, rfl, numT n, rfl, for_it walk_str (fun i σ H' => H' = H ∧ ∃ x, σ = [some (.str (numT n)), x]) ⟨rfl, _, rfl⟩ (fun _ _ _ _ _ => trivial) ?_ ?_⟩
  · rintro i x σ H1 H2 hi ⟨rfl, x1, rfl⟩ ⟨rfl, c, hc, rfl⟩
    have hm : c ∈ TL.tl (numT n) := by
      have : (TL.tl (numT n))[i]? = some c := by rw [Array.getElem?_toList]; exact hc
      exact List.mem_of_getElem? this
    refine ⟨_, rfl, c, _, rfl, rfl, _, rfl, iteFc ?_ ⟨rfl, _, rfl⟩⟩
    rw [decide_eq_true (c1 c hm)]
    rfl
  · rintro σ H1 ⟨rfl, x1, rfl⟩
    have hz : (numT n).length ≤ sizeLine := smallN (by omega)
    refine ⟨_, rfl, _, rfl, hz, _, _, rfl, rfl, _, rfl, iteFc (decide_eq_false (by omega)) ?_⟩
    have fin : tOr (tTest (tOp (rI0 fun i j => V.bl (decide (j < i))) (tCB (fun xs H Q => ∃ a n, xs = [.str a] ∧ PySem.intText? a = some n ∧ a.length ≤ 640 ∧ Q (.int n) H) (tCons (tVar 0) tNil)) (tC (.int 39)))) (fun _ H Q => Q false H) (L2.start n_number_of [V.str (numT n)]) H1 (fun b H' => b = false ∧ H' = H1) := by
      refine ⟨_, rfl, numT n, (n : Int), rfl, hint, by omega, _, _, rfl, rfl, _, rfl, iteFc (decide_eq_false (by omega)) ⟨rfl, rfl⟩⟩
    refine ⟨_, rfl, _, rfl, hz, rfl, _, rfl, ite2 (fun c => ?_) (fun c => ?_)⟩
    · have h2 : (numT n).length = 2 := by
        have := V.int.inj (of_decide_eq_true c)
        omega
      have h0 : (TL.tl (numT n))[0]? = some ((TL.tl (numT n)).getD 0 0) := by
        have hlt : 0 < (TL.tl (numT n)).length := by rw [← TL.len_tl]; omega
        rw [List.getD_eq_getElem?_getD, List.getElem?_eq_getElem hlt]
        rfl
      refine ⟨_, rfl, numT n, 0, (TL.tl (numT n)).getD 0 0, rfl, rfl, hz, atI_nat (j := 0) h0, rfl, _, rfl, iteFc ?_ ?_⟩
      · refine decide_eq_false fun e => c3 h2 ?_
        have e2 := congrArg TL.tl (V.str.inj e)
        have e3 : TL.tl ("0" : Str) = [48] := by decide +kernel
        rw [e3] at e2
        have e4 : [(TL.tl (numT n)).getD 0 0] = [48] := e2
        simpa using e4
      · refine ⟨_, rfl, numT n, (n : Int), rfl, hint, by omega, _, _, rfl, rfl, _, rfl, iteFc (decide_eq_false (by omega)) ?_⟩
        exact ⟨_, rfl, numT n, (n : Int), rfl, hint, by omega, q⟩
    · refine iteF ?_
      refine ⟨_, rfl, numT n, (n : Int), rfl, hint, by omega, _, _, rfl, rfl, _, rfl, iteFc (decide_eq_false (by omega)) ?_⟩
      exact ⟨_, rfl, numT n, (n : Int), rfl, hint, by omega, q⟩
abbrev n_words_of : List Str := ["text", "found", "run", "sign"]
theorem sc_words_of : FnScope n_words_of ["text"] (defScope s_words_of) := ⟨rfl, rfl, rfl, by decide +kernel, rfl, by decide +kernel, by decide +kernel⟩
theorem ok_words_of (D : Def K mg "words_of" s_words_of ["text"]) : Good P w K mg base 1 "words_of" ["text"] spWords := by
  refine D.ok sc_words_of (fun vs H Q E h => ?_) (fun cdv A outer s H vs Q E f hr h => ?_)
  · obtain ⟨z, rfl, _⟩ := h
    rfl
  obtain ⟨z, rfl, hz, q⟩ := h
  refine ⟨_, (pss_cons (ps_set (i := 1) sc_words_of.nd rfl (Or.inl rfl) (pe_lst pa_nil))
    (pss_cons (ps_set (i := 2) sc_words_of.nd rfl (Or.inl rfl) pe_str)
    (pss_cons (ps_for PassesOwn.never rfl (pi_str (pe_op op_add_str (pv 0) pe_str)) (pg_name (i := 3) sc_words_of.nd rfl (Or.inl rfl)) (pss_one (ps_if (pt_cmpR op_in_sign (pv 3) pe_str (by rfl)) (pss_cons (ps_if (pt_cmpR op_ne (pv 2) pe_str (nomark _)) (pss_one (ps_expr (pe_bm PySem.F.plainAttrs_list PySem.F.slot_list_append PySem.F.type_list_append mt_append (pv 1) (pa_cons (pv 2) pa_nil)))) pss_nil)
        (pss_cons (ps_set (i := 2) sc_words_of.nd rfl (Or.inl rfl) pe_str)
        (pss_one (ps_if (pt_cmpR op_in_sign (pv 3) pe_str (by rfl)) (pss_one (ps_expr (pe_bm PySem.F.plainAttrs_list PySem.F.slot_list_append PySem.F.type_list_append mt_append (pv 1) (pa_cons (pv 3) pa_nil)))) pss_nil)))) (pss_one (ps_set (i := 2) sc_words_of.nd rfl (Or.inl rfl) (pe_op op_add_str (pv 2) (pv 3)))))))
    (pss_one (ps_ret (pv 1)))))), ?_⟩
  refine ⟨smallN (by show 0 ≤ 1000000; decide), fun p hp => ?_⟩
  have e1 : (" " : Str).length = 1 := by decide +kernel
  have e0 : ("" : Str).length = 0 := by decide +kernel
  refine ⟨_, rfl, _, _, rfl, rfl, by rw [e1]; rw [sizeLine_eq]; omega, z ++ " ", rfl, ?_⟩
  have ey : TL.tl (z ++ " ") = TL.tl z ++ [32] := by rw [TL.tl_append, tl_sp]
  have es : (z ++ (" " : Str)).cps.size = z.length + 1 := by
    have : (z ++ (" " : Str)).length = z.length + 1 := by rw [len_app, e1]
    exact this
  refine for_it walk_str (fun i σ H' => ∃ (found : List Str) (run : Str) (x3 : Option V), σ = [some (.str z), some (.ref p), some (.str run), x3] ∧ Kp p (upd H p (.lst [])) H' ∧ Lst H' p found ∧ ((TL.tl z ++ [32]).take i).foldl scan1 ([], "") = (found, run) ∧
      found.length ≤ 2 * i ∧ run.length ≤ i) ⟨[], "", none, rfl, Kp.refl _ _, upd_same, rfl, Nat.le_refl _, by decide +kernel⟩ (fun _ _ _ _ _ => trivial) ?_ ?_
  · rintro i x σ H1 H2 hi ⟨found, run, x3, rfl, s1, h1, f1, l1, l2⟩ ⟨rfl, c, hc, rfl⟩
    rw [es] at hi
    have hc2 : (TL.tl z ++ [32])[i]? = some c := by
      rw [← ey, Array.getElem?_toList]
      exact hc
    have f2 : ((TL.tl z ++ [32]).take (i + 1)).foldl scan1 ([], "") = scan1 (found, run) c := by
      rw [List.take_add_one, hc2, List.foldl_append, f1]
      rfl
    have lim : (found.map V.str).length + 1 < sizeLine := by
      rw [List.length_map, sizeLine_eq]
      omega
    refine ⟨_, rfl, c, _, rfl, rfl, _, rfl, ite2 (fun c1 => ?_) (fun c1 => ?_)⟩
    · have hs : isSp c = true := c1
      -- the run ends
      have go : ∀ (H3 : Hp) (f3 : List Str), Kp p H2 H3 → Lst H3 p f3 → f3 = flush found run → f3.length ≤ 2 * i + 1 →
          tSeq (tAsg (tC (.str "")) (gName 2)) (tIfS (tTest (tOp (fun x y H Q => ∃ (c : Nat) (z : Str), x = .str ⟨#[c]⟩ ∧ y = .str z ∧ Q (.bl (decide (c ∈ z.cps.toList))) H) (tVar 3) (tC (.str "()")))) (tDrop (tBM K "list" rAppend (tVar 1) (tCons (tVar 3) tNil))) tNext)
            { nx := fun σ H' => ∃ (found : List Str) (run : Str) (x3 : Option V), σ = [some (.str z), some (.ref p), some (.str run), x3] ∧ Kp p (upd H p (.lst [])) H' ∧ Lst H' p found ∧ ((TL.tl z ++ [32]).take (i + 1)).foldl scan1 ([], "") = (found, run) ∧ found.length ≤ 2 * (i + 1) ∧ run.length ≤ i + 1, rt := Q }
            [some (.str z), some (.ref p), some (.str run), some (.str ⟨#[c]⟩)] H3 := by
        intro H3 f3 s3 h3 e3 l3
        refine ⟨_, rfl, c, _, rfl, rfl, _, rfl, ite2 (fun c2 => ?_) (fun c2 => ?_)⟩
        · have hb : isBr c = true := c2
          refine ⟨_, rfl, .inl ⟨rfl, _, SqL.of h3⟩, _, rfl, p, _, _, rfl, rfl, h3, by rw [List.length_map, sizeLine_eq]; omega, ?_⟩
          refine ⟨f3 ++ [⟨#[c]⟩], "", _, rfl, (s1.trans s3).trans kp_upd, ?_, ?_, by rw [List.length_append, List.length_singleton]; omega, by omega⟩
          · show upd H3 p _ p = _
            rw [upd_same, List.map_append]
            rfl
          · rw [f2]
            unfold scan1
            rw [hs, hb, e3]
            rfl
        · have hb : isBr c = false := Bool.eq_false_iff.mpr c2
          refine ⟨f3, "", _, rfl, s1.trans s3, h3, ?_, by omega, by omega⟩
          rw [f2]
          unfold scan1
          rw [hs, hb, e3]
          rfl
      refine ⟨_, rfl, rfl, _, rfl, ite2 (fun c2 => ?_) (fun c2 => ?_)⟩
      · have nr : run ≠ "" := fun e => by
          rw [e, decide_eq_true rfl] at c2
          cases c2
        refine ⟨_, rfl, .inl ⟨rfl, _, SqL.of h1⟩, _, rfl, p, _, _, rfl, rfl, h1, by omega, ?_⟩
        refine go _ (found ++ [run]) kp_upd ?_ ?_ (by rw [List.length_append, List.length_singleton]; omega)
        · show upd H2 p _ p = _
          rw [upd_same, List.map_append]
          rfl
        · unfold flush
          rw [if_neg nr]
      · have nr : run = "" := by
          have c3 : (!decide (V.str run = V.str "")) = false := Bool.eq_false_iff.mpr c2
          rw [Bool.not_eq_false'] at c3
          exact V.str.inj (of_decide_eq_true c3)
        refine go _ found (Kp.refl _ _) h1 ?_ (by omega)
        unfold flush
        rw [if_pos nr]
    · have hs : isSp c = false := Bool.eq_false_iff.mpr c1
      refine ⟨_, rfl, _, rfl, _, _, rfl, rfl, ?_, ?_⟩
      · show run.length + 1 ≤ sizeLine
        rw [sizeLine_eq]
        omega
      · refine ⟨found, run ++ ⟨#[c]⟩, _, rfl, s1, h1, ?_, by omega, ?_⟩
        · rw [f2]
          unfold scan1
          rw [hs]
          rfl
        · rw [len_app]
          show run.length + 1 ≤ i + 1
          omega
  · rintro σ H1 ⟨found, run, x3, rfl, s1, h1, f1, l1, l2⟩
    rw [es] at f1
    have e9 : (TL.tl z ++ [32]).take (z.length + 1) = TL.tl z ++ [32] := List.take_of_length_le (by rw [List.length_append, List.length_singleton, ← TL.len_tl]; exact Nat.le_refl _)
    rw [e9] at f1
    have e10 : wordsS z = found := by
      unfold wordsS
      rw [f1]
    refine ⟨_, rfl, q p H1 (fun b o hb => ?_) hp (by rw [e10]; exact h1)⟩
    have nb : b ≠ p := ne_of_none hb hp
    exact s1 b o nb (by rw [upd_ne nb]; exact hb)
end
end KP
set_option Elab.async false
set_option linter.all false
set_option maxRecDepth 100000
set_option maxHeartbeats 4000000
/-! KpRead2: parts made, forms looked at. -/
namespace KP
open PySem PySem.Spec PyProof.Rows L2
/-- [x.f for x in xs] -/
theorem comp_fld {K : PySem.W.Frag} {σ : L2.St} {H : Hp} {i k : Nat} {l : Addr} {us : List V} {f : Str} {CP : Addr} {Q : VK} (hi : σ[i]? = some (some (V.ref l))) (hk : k < σ.length) (hl : H l = some (.lst us)) (hn : us.length ≤ 1000) (cl : Cls K CP) (na : NoAttr K CP f)
    (hu : ∀ u ∈ us, ∃ a dx fs y, u = V.ref a ∧ H a = some (.ins CP dx fs) ∧ fs.lookup f = some y)
    (q : ∀ (D : Addr) (acc : List V) (H' : Hp), Same H H' → H D = none → H' D = some (.lst acc) → acc.length = us.length → (∀ (j : Nat) (u y : V), us[j]? = some u → acc[j]? = some y → ∃ a dx fs, u = V.ref a ∧ H a = some (.ins CP dx fs) ∧ fs.lookup f = some y) → Q (.ref D) H') :
    tLc (iList K (tVar i)) (gName k) tYes (tFld K (tVar k) f) [k] σ H Q := by
  refine ⟨_, hi, l, rfl, ⟨_, SqL.of hl⟩, fun D hD => lc_list (K := K) (a := l) (xs := us) (fun i H' => ∃ acc : List V, Same H H' ∧ H' D = some (.lst acc) ∧ acc.length = i ∧
    (∀ (j : Nat) (u y : V), us[j]? = some u → acc[j]? = some y → ∃ a dx fs, u = V.ref a ∧ H a = some (.ins CP dx fs) ∧ fs.lookup f = some y)) ⟨[], same_new hD _, upd_same, rfl, fun j u y _ h => by simp at h⟩ ?_ ?_ ?_⟩
  · rintro i H1 _ ⟨acc, s1, _⟩
    exact SqL.of (s1 _ _ hl)
  · rintro i u H1 hy ⟨acc, s1, e1, l1, g1⟩
    obtain ⟨a, dx, fs, y, rfl, h2, h3⟩ := hu u (List.mem_of_getElem? hy)
    have hi2 : i < us.length := (List.getElem?_eq_some_iff.mp hy).1
    refine ⟨?_, _, ?_, a, CP, dx, fs, y, rfl, s1 _ _ h2, cl, na, h3, acc, e1, smallLt (by omega), acc ++ [y], ?_, upd_same, by rw [List.length_append, l1]; rfl, ?_⟩
    · show (((σ.set k none).set k (some (V.ref a))).set k none) = σ.set k none
      rw [List.set_set, List.set_set]
    · show ((σ.set k none).set k (some (V.ref a)))[k]? = _
      exact List.getElem?_set_self (by rw [List.length_set]; exact hk)
    · intro c o hc
      rw [upd_ne (ne_of_none hc hD)]
      exact s1 _ _ hc
    · intro j u y' hj1 hj2
      by_cases c : j < acc.length
      · rw [List.getElem?_append_left c] at hj2
        exact g1 j u y' hj1 hj2
      · have hlt := (List.getElem?_eq_some_iff.mp hj2).1
        rw [List.length_append, List.length_singleton] at hlt
        have ej : j = i := by omega
        subst ej
        rw [hy] at hj1
        rw [List.getElem?_append_right (by omega), l1, Nat.sub_self] at hj2
        have e2 : y = y' := by simpa using hj2
        subst e2
        exact ⟨a, dx, fs, (Option.some.inj hj1).symm, h2, h3⟩
  · rintro H1 ⟨acc, s1, e1, l1, g1⟩
    exact q D acc H1 s1 hD e1 l1 g1
/-- ints that a list of parts holds -/
theorem parts_ints {CP : Addr} {H : Hp} {f : Str} {g : PM → Int} (hg : ∀ (v : V) (p : PM), (pF v p.w (p.kn : Int) (p.lv : Int)).lookup f = some (.int (g p))) : ∀ {ps : List PM} {us acc : List V}, PartsAt CP H ps us → acc.length = us.length →
    (∀ (j : Nat) (u y : V), us[j]? = some u → acc[j]? = some y → ∃ a dx fs, u = V.ref a ∧ H a = some (.ins CP dx fs) ∧ fs.lookup f = some y) → acc = (ps.map g).map V.int
  | [], us, acc, h, hl, hh => by
    have e : us = [] := h
    subst e
    exact List.eq_nil_of_length_eq_zero hl
  | p :: ps, us, acc, h, hl, hh => by
    obtain ⟨u0, r, e0, ⟨a, dx, v, e1, h1, h3⟩, h2⟩ := h
    subst e0
    cases acc with
    | nil => simp at hl
    | cons y0 acc =>
      obtain ⟨a', dx', fs, e4, h4, h5⟩ := hh 0 u0 y0 rfl rfl
      rw [e1] at e4
      cases e4
      rw [h1] at h4
      have q := Option.some.inj h4
      injection q with _ _ q
      rw [← q, hg] at h5
      have ih := parts_ints hg (acc := acc) h2 (by simpa using hl) fun j u y a b => hh (j + 1) u y (by simpa using a) (by simpa using b)
      rw [ih, ← Option.some.inj h5]
      rfl
theorem parts_there {CP : Addr} {H : Hp} {f : Str} {g : V → PM → V} (hg : ∀ (v : V) (p : PM), (pF v p.w (p.kn : Int) (p.lv : Int)).lookup f = some (g v p)) {ps : List PM} {us : List V} (h : PartsAt CP H ps us) :
    ∀ u ∈ us, ∃ a dx fs y, u = V.ref a ∧ H a = some (.ins CP dx fs) ∧ fs.lookup f = some y := by
  intro u hu
  obtain ⟨i, hi⟩ := List.getElem?_of_mem hu
  obtain ⟨p, _, a, dx, v, e, h1, h2⟩ := h.get hi
  exact ⟨a, dx, _, _, e, h1, hg v p⟩
section
variable {P : Program} {w : World} {K : PySem.W.Frag} {mg : Str → Option Value} {base : Heap} {CF CP : Addr}
abbrev n_variable_part : List Str := ["number"]
theorem sc_variable_part : FnScope n_variable_part ["number"] (defScope s_variable_part) := ⟨rfl, rfl, rfl, by decide +kernel, rfl, by decide +kernel, by decide +kernel⟩
theorem ok_variable_part (D : Def K mg "variable_part" s_variable_part ["number"]) (T : Cl P w K mg base CF CP) (cG : ∃ t, mg "GREATEST_reading" = some (.int 99 t)) : Good P w K mg base 3 "variable_part" ["number"] (spVarPart CP) := by
  obtain ⟨tG, m_GREATEST_reading⟩ := cG
  obtain ⟨fP, fdP, M_Part, GF_Part, b_Part⟩ := T.mkP
  have mg_Part := T.mgP
  refine D.ok sc_variable_part (fun vs H Q E h => ?_) (fun cdv A outer s H vs Q E f hr h => ?_)
  · obtain ⟨n, rfl, _⟩ := h
    rfl
  obtain ⟨n, rfl, hn, q⟩ := h
  refine ⟨_, (pss_cons (ps_if (pt_cmpR op_gt (pv 0) (pe_glob (v := .int 99) (by rfl) m_GREATEST_reading ⟨_, rfl⟩) (nomark _)) (pss_one (ps_ret pe_never)) pss_nil)
    (pss_one (ps_ret (pe_make M_Part GF_Part (hr.mono (by omega)) (by rfl) mg_Part b_Part .nil pass0 (pa_cons (pe_tup (pa_cons pe_str (pa_cons (pv 0) pa_nil))) (pa_cons pe_str (pa_cons pe_int (pa_cons pe_int pa_nil)))))))), ?_⟩
  refine ⟨_, rfl, _, _, rfl, rfl, _, rfl, iteFc (decide_eq_false (by omega)) ?_⟩
  refine ⟨_, rfl, smallN (by show 2 ≤ 1000000; decide), fun p hp x dx hx hdx _ => ?_⟩
  have s1 : Same H (upd H p (.tup [V.str "var", V.int (n : Int)])) := same_new hp _
  exact made_part (t := .v n) (v := .ref p) (z := "var") (kn := 1) (lv := 1) hx hdx (by unfold At; exact ⟨p, rfl, upd_same⟩) fun y H' s2 h2 => q y H' (s1.trans s2) h2
abbrev n_figures_part : List Str := ["number", "thing", "count"]
theorem sc_figures_part : FnScope n_figures_part ["number"] (defScope s_figures_part) := ⟨rfl, rfl, rfl, by decide +kernel, rfl, by decide +kernel, by decide +kernel⟩
theorem ok_figures_part (D : Def K mg "figures_part" s_figures_part ["number"]) (Z : Blt mg) (T : Cl P w K mg base CF CP) : Good P w K mg base 3 "figures_part" ["number"] (spFigPart CP) := by
  obtain ⟨fP, fdP, M_Part, GF_Part, b_Part⟩ := T.mkP
  have mg_Part := T.mgP
  refine D.ok sc_figures_part (fun vs H Q E h => ?_) (fun cdv A outer s H vs Q E f hr h => ?_)
  · obtain ⟨n, rfl, _⟩ := h
    rfl
  obtain ⟨n, rfl, hn, q⟩ := h
  refine ⟨_, (pss_cons (ps_set (i := 1) sc_figures_part.nd rfl (Or.inl rfl) (pe_tup (pa_cons pe_str pa_nil)))
    (pss_cons (ps_for PassesOwn.never rfl (pi_range1 (by rfl) Z.range (pa_cons (pv 0) pa_nil)) (pg_name (i := 2) sc_figures_part.nd rfl (Or.inl rfl)) (pss_one (ps_set (i := 1) sc_figures_part.nd rfl (Or.inl rfl) (pe_tup (pa_cons pe_str (pa_cons (pv 1) pa_nil))))))
    (pss_one (ps_ret (pe_make M_Part GF_Part (hr.mono (by omega)) (by rfl) mg_Part b_Part .nil pass0 (pa_cons (pv 1) (pa_cons pe_str (pa_cons (pe_op op_add (pv 0) pe_int) (pa_cons (pe_op op_add (pv 0) pe_int) pa_nil))))))))), ?_⟩
  refine ⟨smallN (by show 1 ≤ 1000000; decide), fun p hp => ?_⟩
  have s1 : Same H (upd H p (.tup [V.str "zero"])) := same_new hp _
  refine ⟨_, rfl, _, rfl, by omega, by omega, for_range (lo := 0) (n := ((n : Nat) : Int).toNat) (fun i σ H' => ∃ (x : V) (xc : Option V), σ = [some (.int (n : Int)), some x, xc] ∧ Same H H' ∧ At H' (figT i) x) ⟨.ref p, none, rfl, s1, At.mk (ks := []) upd_same .nil⟩ ?_ ?_⟩
  · rintro i σ H1 hi ⟨x, xc, rfl, s2, h2⟩
    refine ⟨_, rfl, smallN (by show 2 ≤ 1000000; decide), fun p2 hp2 => ?_⟩
    have s3 := same_new hp2 (.tup [V.str "next", x])
    exact ⟨.ref p2, _, rfl, s2.trans s3, At.mk (ks := [figT i]) upd_same (.cons (h2.mono s3.tk) .nil)⟩
  · rintro σ H1 ⟨x, xc, rfl, s2, h2⟩
    rw [Int.toNat_natCast] at h2
    refine ⟨_, rfl, _, rfl, _, _, rfl, rfl, _, rfl, _, _, rfl, rfl, fun y dx hy hdx _ => ?_⟩
    exact made_part (t := figT n) (v := x) (z := "zero") (kn := n + 1) (lv := n + 1) hy hdx h2 fun u H' s3 h3 => q u H' (s2.trans s3) h3
abbrev n_part_of : List Str := ["word", "parts", "knots", "levels", "things", "part"]
theorem sc_part_of : FnScope n_part_of ["word", "parts"] (defScope s_part_of) := ⟨rfl, rfl, rfl, by decide +kernel, rfl, by decide +kernel, by decide +kernel⟩
theorem ok_part_of (D : Def K mg "part_of" s_part_of ["word", "parts"]) (Z : Blt mg) (T : Cl P w K mg base CF CP) (cM : ∃ t, mg "MOST_KNOTS_reading" = some (.int 600 t)) (cD : ∃ t, mg "DEEPEST_reading" = some (.int 40 t)) : Good P w K mg base 3 "part_of" ["word", "parts"] (spPartOf CP) := by
  obtain ⟨tM, m_MOST_KNOTS_reading⟩ := cM
  obtain ⟨tD, m_DEEPEST_reading⟩ := cD
  obtain ⟨fP, fdP, M_Part, GF_Part, b_Part⟩ := T.mkP
  have mg_Part := T.mgP
  refine D.ok sc_part_of (fun vs H Q E h => ?_) (fun cdv A outer s H vs Q E f hr h => ?_)
  · obtain ⟨z, l, us, ps, rfl, _⟩ := h
    rfl
  obtain ⟨z, l, us, ps, rfl, hl, hp, hne, hlen, hK, hL, q⟩ := h
  refine ⟨_, (pss_cons (ps_set (i := 2) sc_part_of.nd rfl (Or.inl rfl) (pe_op op_add pe_int (pe_callB (cr_sum rfl) (by rfl) Z.sum (by decide +kernel) (pa_cons (pe_lc (own := [("part", 5)]) (g := gName 5) (tt := tYes) (te := tFld K (tVar 5) "knots") rfl sc_part_of.nd (pi_list (pv 1)) (blkOk_by (N := n_part_of) (sc := defScope s_part_of) (by decide +kernel)) (fun _ _ _ _ _ => pg_name (i := 5) sc_part_of.nd rfl (Or.inl rfl)) (fun _ _ _ _ _ => pts_nil) (fun _ _ _ _ _ => (pe_fld (pv 5) rfl))) pa_nil))))
    (pss_cons (ps_set (i := 3) sc_part_of.nd rfl (Or.inl rfl) (pe_op op_add pe_int (pe_callB (cr_max rfl) (by rfl) Z.max (by decide +kernel) (pa_cons (pe_lc (own := [("part", 5)]) (g := gName 5) (tt := tYes) (te := tFld K (tVar 5) "levels") rfl sc_part_of.nd (pi_list (pv 1)) (blkOk_by (N := n_part_of) (sc := defScope s_part_of) (by decide +kernel)) (fun _ _ _ _ _ => pg_name (i := 5) sc_part_of.nd rfl (Or.inl rfl)) (fun _ _ _ _ _ => pts_nil) (fun _ _ _ _ _ => (pe_fld (pv 5) rfl))) pa_nil))))
    (pss_cons (ps_setLc (i := 4) (own := [("part", 5)]) (g := gName 5) (tt := tYes) (te := tFld K (tVar 5) "thing") rfl sc_part_of.nd rfl rfl (sw_true rfl rfl rfl (by decide +kernel)) (pi_list (pv 1)) (blkOk_by (N := n_part_of) (sc := defScope s_part_of) (by decide +kernel)) (fun _ _ _ _ _ => pg_name (i := 5) sc_part_of.nd rfl (Or.inl rfl)) (fun _ _ _ _ _ => pts_nil) (fun _ _ _ _ _ => (pe_fld (pv 5) rfl)))
    (pss_cons (ps_if (PW.pt (pw_or (pt_cmpR op_gt (pv 2) (pe_glob (v := .int 600) (by rfl) m_MOST_KNOTS_reading ⟨_, rfl⟩) (nomark _)) (pw_or (pt_cmpR op_gt (pv 3) (pe_glob (v := .int 40) (by rfl) m_DEEPEST_reading ⟨_, rfl⟩) (nomark _)) (pw_or1 (pt_cmpR (op_in_none hr) pe_non (pv 4) (by rfl)))))) (pss_one (ps_ret pe_never)) pss_nil)
    (pss_one (ps_ret (pe_make M_Part GF_Part (hr.mono (by omega)) (by rfl) mg_Part b_Part .nil pass0 (pa_cons (pe_op op_catT (pe_tup (pa_cons (pv 0) pa_nil)) (pe_callTy call_tuple_of (by rfl) Z.tuple (by decide +kernel) (pa_cons (pv 4) pa_nil))) (pa_cons (pv 0) (pa_cons (pv 2) (pa_cons (pv 3) pa_nil))))))))))), ?_⟩
  have ul : us.length ≤ 1000 := by rw [hp.length]; exact hlen
  dsimp only [tSeq, tAsg, tOp, tC, tCB, tCons, tNil, gName]
  refine comp_fld rfl (by show 5 < 6; decide) hl ul T.clP T.nPk (parts_there (g := fun _ p => .int (p.kn : Int)) (fun v p => pF_knots _ _ _ _) hp) fun D1 acc1 H1 s1 hD1 e1 l1 g1 => ?_
  have a1 := parts_ints (g := fun p => (p.kn : Int)) (fun v p => pF_knots _ _ _ _) hp l1 g1
  subst a1
  refine ⟨D1, _, rfl, SqL.of e1, _, _, rfl, rfl, ?_⟩
  rw [sumK_int]
  have hp1 := hp.mono s1
  dsimp only [tSeq, tAsg, tOp, tC, tCB, tCons, tNil, gName]
  refine comp_fld rfl (by show 5 < 6; decide) (s1 _ _ hl) ul T.clP T.nPl (parts_there (g := fun _ p => .int (p.lv : Int)) (fun v p => pF_levels _ _ _ _) hp1) fun D2 acc2 H2 s2 hD2 e2 l2 g2 => ?_
  have a2 := parts_ints (g := fun p => (p.lv : Int)) (fun v p => pF_levels _ _ _ _) hp1 l2 g2
  subst a2
  refine ⟨D2, _, rfl, SqL.of e2, ?_, fun m hm hle => ?_⟩
  · rw [List.length_map]
    exact List.length_pos_iff.mpr hne
  have em := maxL_int ps m hm hle
  subst em
  refine ⟨_, _, rfl, rfl, ?_⟩
  have hp2 := hp1.mono s2
  have S2 := s1.trans s2
  dsimp only [tSeq, tAsg, tOp, tC, tCB, tCons, tNil, gName]
  refine comp_fld rfl (by show 5 < 6; decide) (S2 _ _ hl) ul T.clP T.nPt (parts_there (g := fun v _ => v) (fun v p => pF_thing _ _ _ _) hp2) fun D3 acc3 H3 s3 hD3 e3 l3 g3 => ?_
  have S3 := S2.trans s3
  have hp3 := hp2.mono s3
  have hth : AtL H3 (ps.map (·.t)) acc3 := by
    refine hp3.things l3 fun i u hi => ?_
    obtain ⟨p, hpi, a, dx, v, e5, h5, h6⟩ := hp2.get hi
    have hlt : i < acc3.length := by rw [l3]; exact (List.getElem?_eq_some_iff.mp hi).1
    obtain ⟨a', dx', fs, e6, h7, h8⟩ := g3 i u acc3[i] hi (List.getElem?_eq_getElem hlt)
    rw [e5] at e6
    cases e6
    rw [h5] at h7
    have q9 := Option.some.inj h7
    injection q9 with _ _ q9
    rw [← q9, pF_thing] at h8
    exact ⟨a, dx, v, p.w, _, _, e5, s3 _ _ h5, by rw [List.getElem?_eq_getElem hlt, ← Option.some.inj h8]⟩
  refine ⟨_, rfl, _, _, rfl, rfl, _, rfl, iteFc (decide_eq_false (by omega)) ?_⟩
  refine ⟨_, rfl, _, _, rfl, rfl, _, rfl, iteFc (decide_eq_false (by omega)) ?_⟩
  refine ⟨_, rfl, D3, acc3, rfl, rfl, SqL.of e3, ?_, _, rfl, iteF ?_⟩
  · intro u hu
    obtain ⟨i, hi⟩ := List.getElem?_of_mem hu
    obtain ⟨k, _, hk, _⟩ := hth.get hi
    obtain ⟨a, xs, e, h⟩ := hk.tup
    exact ⟨a, _, e, h⟩
  -- the tuple
  refine ⟨_, rfl, smallN (by show 1 ≤ 1000000; decide), fun p hp9 => ?_⟩
  have s4 := same_new hp9 (.tup [V.str z])
  refine ⟨_, rfl, D3, acc3, rfl, .inl ⟨SqL.of (s4 _ _ e3), fun p2 hp2' => ?_⟩⟩
  have s5 := same_new hp2' (.tup acc3)
  have al : acc3.length = ps.length := by rw [hth.length, List.length_map]
  refine ⟨p, p2, _, _, rfl, rfl, SqT.of (s5 _ _ upd_same), SqT.of upd_same, (by intro e; cases e), ?_, fun e => ?_, fun _ p3 hp3' => ?_⟩
  · show 1 + acc3.length ≤ sizeLine
    exact smallN (by omega)
  · rw [e] at al
    exact absurd (List.length_pos_iff.mpr hne) (by rw [← al]; exact Nat.lt_irrefl 0)
  have s6 := same_new hp3' (.tup ([V.str z] ++ acc3))
  have S6 := ((S3.trans s4).trans s5).trans s6
  refine ⟨_, rfl, _, rfl, _, rfl, fun y dx hy hdx _ => ?_⟩
  have e7 : (1 : Int) + (sumK ps : Int) = ((1 + sumK ps : Nat) : Int) := by omega
  have e8 : (1 : Int) + (maxL ps : Int) = ((1 + maxL ps : Nat) : Int) := by omega
  show spPartInit CP (.ref y :: ([V.ref p3, .str z, .int ((1 : Int) + (sumK ps : Int)), .int ((1 : Int) + (maxL ps : Int))] ++ [])) _ _ _
  rw [e7, e8]
  exact made_part (t := .nd z (ps.map (·.t))) (v := .ref p3) (z := z) (kn := 1 + sumK ps) (lv := 1 + maxL ps) hy hdx (At.mk upd_same (hth.mono ((s4.trans s5).trans s6).tk)) fun u H' s7 h7 => q u H' (S6.trans s7) h7
end
end KP
set_option Elab.async false
set_option linter.all false
set_option maxRecDepth 100000
set_option maxHeartbeats 4000000
/-! KpRead3: the forms that stand open. -/
namespace KP
open PySem PySem.Spec PyProof.Rows L2
/-- a form stands at p, its parts at l -/
def FormAt (CF CP : Addr) (H : Hp) (p l : Addr) (f : FM) : Prop := ∃ dx us, H p = some (.ins CF dx (fF f.w f.b l)) ∧ H l = some (.lst us) ∧ PartsAt CP H f.ps us ∧ f.ps.length ≤ 4
def FsAt (CF CP : Addr) (H : Hp) : List FM → List (Addr × Addr) → Prop
  | [], as => as = []
  | f :: fs, as => ∃ a r, as = a :: r ∧ FormAt CF CP H a.1 a.2 f ∧ FsAt CF CP H fs r
def refs (as : List (Addr × Addr)) : List V := (as.map fun a => V.ref a.1).reverse
theorem refs_cons (a : Addr × Addr) (as : List (Addr × Addr)) : refs (a :: as) = refs as ++ [V.ref a.1] := by
  unfold refs
  rw [List.map_cons, List.reverse_cons]
theorem refs_len (as : List (Addr × Addr)) : (refs as).length = as.length := by
  unfold refs
  rw [List.length_reverse, List.length_map]
theorem refs_ne (a : Addr × Addr) (as : List (Addr × Addr)) : (refs (a :: as)).isEmpty = false := by
  rw [refs_cons]
  cases refs as <;> rfl
theorem FormAt.same {CF CP : Addr} {H H' : Hp} {p l : Addr} {f : FM} (s : Same H H') (h : FormAt CF CP H p l f) : FormAt CF CP H' p l f := by
  obtain ⟨dx, us, h1, h2, h3, h4⟩ := h
  exact ⟨dx, us, s _ _ h1, s _ _ h2, h3.mono s, h4⟩
/-- behind a change of another form or another list -/
theorem FormAt.kp {CF CP : Addr} {H H' : Hp} {p l d : Addr} {f : FM} {o : HO} (s : Kp d H H') (hd : H d = some o) (n : ∀ xs, o ≠ .tup xs) (n2 : ∀ dx fs, o ≠ .ins CP dx fs) (e1 : p ≠ d) (e2 : l ≠ d) (h : FormAt CF CP H p l f) : FormAt CF CP H' p l f := by
  obtain ⟨dx, us, h1, h2, h3, h4⟩ := h
  exact ⟨dx, us, s _ _ e1 h1, s _ _ e2 h2, h3.kp s hd n n2, h4⟩
theorem FsAt.same {CF CP : Addr} {H H' : Hp} (s : Same H H') : ∀ {fs : List FM} {as : List (Addr × Addr)}, FsAt CF CP H fs as → FsAt CF CP H' fs as
  | [], as, h => h
  | f :: fs, as, h => by
    obtain ⟨a, r, e, h1, h2⟩ := h
    exact ⟨a, r, e, h1.same s, FsAt.same s h2⟩
theorem FsAt.kp {CF CP : Addr} {H H' : Hp} {d : Addr} {o : HO} (s : Kp d H H') (hd : H d = some o) (n : ∀ xs, o ≠ .tup xs) (n2 : ∀ dx fs, o ≠ .ins CP dx fs) : ∀ {fs : List FM} {as : List (Addr × Addr)}, (∀ a ∈ as, a.1 ≠ d ∧ a.2 ≠ d) → FsAt CF CP H fs as → FsAt CF CP H' fs as
  | [], as, q, h => h
  | f :: fs, as, q, h => by
    obtain ⟨a, r, e, h1, h2⟩ := h
    subst e
    have q1 := q a List.mem_cons_self
    exact ⟨a, r, rfl, h1.kp s hd n n2 q1.1 q1.2, FsAt.kp s hd n n2 (fun b hb => q b (List.mem_cons_of_mem _ hb)) h2⟩
theorem FsAt.length {CF CP : Addr} {H : Hp} : ∀ {fs : List FM} {as : List (Addr × Addr)}, FsAt CF CP H fs as → as.length = fs.length
  | [], as, h => by
    have e : as = [] := h
    rw [e]
    rfl
  | f :: fs, as, h => by
    obtain ⟨a, r, e, h1, h2⟩ := h
    rw [e, List.length_cons, List.length_cons, FsAt.length h2]
theorem FsAt.get {CF CP : Addr} {H : Hp} : ∀ {fs : List FM} {as : List (Addr × Addr)} {i : Nat} {a : Addr × Addr}, FsAt CF CP H fs as → as[i]? = some a → ∃ f, fs.drop i = f :: fs.drop (i + 1) ∧ FormAt CF CP H a.1 a.2 f
  | [], as, i, a, h, e => by
    have e2 : as = [] := h
    rw [e2] at e
    simp at e
  | f :: fs, as, i, a, h, e => by
    obtain ⟨a0, r, e0, h1, h2⟩ := h
    subst e0
    cases i with
    | zero =>
      have e2 : a0 = a := by simpa using e
      subst e2
      exact ⟨f, rfl, h1⟩
    | succ i =>
      obtain ⟨g, e3, h3⟩ := FsAt.get (i := i) h2 (by simpa using e)
      exact ⟨g, by simpa using e3, h3⟩
theorem partsS_len (w : Str) : (partsS w).length ≤ 4 := by
  unfold partsS
  repeat' split
  all_goals decide +kernel
/-! ### the promises -/
def spBindsNow (CF CP : Addr) : Sp := fun vs H Q _ => ∃ (p l : Addr) (f : FM), vs = [.ref p] ∧ FormAt CF CP H p l f ∧ ∀ H', Same H H' → Q (.bl (bindsM f)) H'
def spIsOpen (CF CP : Addr) : Sp := fun vs H Q _ => ∃ (p l : Addr) (f : FM), vs = [.ref p] ∧ FormAt CF CP H p l f ∧ ∀ H', Same H H' → Q (.bl (isOpenM f)) H'
def spHeaded (CF CP : Addr) : Sp := fun vs H Q _ => ∃ (p l : Addr) (f f' : FM) (z : Str), vs = [.ref p, .str z] ∧ FormAt CF CP H p l f ∧ z.length ≤ 1000000 ∧ headedM f z = some f' ∧ ∀ H', Kp p H H' → FormAt CF CP H' p l f' → Q .non H'
def spPlaced (CF CP : Addr) : Sp := fun vs H Q _ => ∃ (F : Addr) (x : V) (b : Bool) (fs : List FM) (as : List (Addr × Addr)) (p : PM) (st : List FM × Option PM), vs = [.ref F, x, .str (wantT b)] ∧ H F = some (.lst (refs as)) ∧ FsAt CF CP H fs as ∧ PartAt CP H x p ∧
  placedM fs p (wantT b) = some st ∧ (fs = [] → st = ([], some p) → ∀ H', Same H H' → Q x H') ∧
  (∀ a r f fr, as = a :: r → fs = f :: fr → st = (⟨f.w, f.b, f.ps ++ [p]⟩ :: fr, none) → ∀ H', Kp a.2 H H' → FormAt CF CP H' a.1 a.2 ⟨f.w, f.b, f.ps ++ [p]⟩ → Q .non H')
def spClosed (CF CP : Addr) : Sp := fun vs H Q _ => ∃ (F : Addr) (f : FM) (fr : List FM) (a : Addr × Addr) (r : List (Addr × Addr)) (p : PM) (fs' : List FM), vs = [.ref F] ∧ H F = some (.lst (refs (a :: r))) ∧ FormAt CF CP H a.1 a.2 f ∧ a.2 ≠ F ∧ closedM (f :: fr) = some (p, fs') ∧
  ∀ (y : V) (H' : Hp), fs' = fr → Kp F H H' → H' F = some (.lst (refs r)) → PartAt CP H' y p → Q y H'
def spNamed (CF CP : Addr) : Sp := fun vs H Q _ => ∃ (z : Str) (F n : Addr) (fs : List FM) (as : List (Addr × Addr)) (names : List Str) (p : PM), vs = [.str z, .ref F, .ref n] ∧ H F = some (.lst (refs as)) ∧ FsAt CF CP H fs as ∧ Lst H n names ∧ namedGo z names fs 0 = some p ∧
  ∀ (y : V) (H' : Hp), Same H H' → PartAt CP H' y p → Q y H'
def spLeaf (CF CP : Addr) : Sp := fun vs H Q _ => ∃ (z : Str) (F n : Addr) (fs : List FM) (as : List (Addr × Addr)) (names : List Str) (p : PM), vs = [.str z, .ref F, .ref n] ∧ H F = some (.lst (refs as)) ∧ FsAt CF CP H fs as ∧ Lst H n names ∧ z.length ≤ 1000000 ∧ leafM z fs names = some p ∧
  ∀ (y : V) (H' : Hp), Same H H' → PartAt CP H' y p → Q y H'
section
variable {P : Program} {w : World} {K : PySem.W.Frag} {mg : Str → Option Value} {base : Heap} {CF CP : Addr}
abbrev n_binds_now : List Str := ["form"]
theorem sc_binds_now : FnScope n_binds_now ["form"] (defScope s_binds_now) := ⟨rfl, rfl, rfl, by decide +kernel, rfl, by decide +kernel, by decide +kernel⟩
theorem ok_binds_now (D : Def K mg "binds_now" s_binds_now ["form"]) (Z : Blt mg) (T : Cl P w K mg base CF CP) (G_names_one : Good P w K mg base 1 "names_one" ["word"] spBinds) (G_bound_part : Good P w K mg base 1 "bound_part" ["word"] spBound) :
    Good P w K mg base 2 "binds_now" ["form"] (spBindsNow CF CP) := by
  refine D.ok sc_binds_now (fun vs H Q E h => ?_) (fun cdv A outer s H vs Q E f hr h => ?_)
  · obtain ⟨p, l, f, rfl, _⟩ := h
    rfl
  obtain ⟨p, l, f, rfl, ⟨dx, us, h1, h2, h3, h4⟩, q⟩ := h
  refine ⟨_, (pss_one (ps_ret (pe_and (gcall G_names_one (hr.mono (by omega)) (pa_cons (pe_fld (pv 0) rfl) pa_nil)) (pe_one (pe_cmpR op_eq (gcall G_bound_part (hr.mono (by omega)) (pa_cons (pe_fld (pv 0) rfl) pa_nil)) (pe_callB call_len_seq (by rfl) Z.len (by decide +kernel) (pa_cons (pe_fld (pv 0) rfl) pa_nil)) (nomark _)))))), ?_⟩
  refine ⟨_, rfl, p, CF, dx, _, _, rfl, h1, T.clF, T.nFw, fF_word _ _ _, f.w, rfl, fun H1 s1 => ⟨_, rfl, ?_⟩⟩
  by_cases c : bindS f.w = true
  · rw [if_pos c]
    refine ⟨_, rfl, p, CF, dx, _, _, rfl, s1 _ _ h1, T.clF, T.nFw, fF_word _ _ _, f.w, rfl, fun H2 s2 => ?_⟩
    have S := s1.trans s2
    refine ⟨_, rfl, p, CF, dx, _, _, rfl, S _ _ h1, T.clF, T.nFp, fF_parts _ _ _, l, us, rfl, .inl (SqL.of (S _ _ h2)), rfl, ?_⟩
    have e : decide (V.int ((bpS f.w : Nat) : Int) = V.int (us.length : Int)) = bindsM f := by
      unfold bindsM
      rw [c, Bool.true_and, h3.length]
      refine decide_eq_decide.mpr ⟨fun e => ?_, fun e => by rw [e]⟩
      have := V.int.inj e
      omega
    rw [e]
    exact q _ S
  · rw [if_neg c]
    have e : bindsM f = false := by
      unfold bindsM
      rw [Bool.eq_false_iff.mpr c, Bool.false_and]
    rw [e] at q
    exact q _ s1
abbrev n_is_open : List Str := ["form"]
theorem sc_is_open : FnScope n_is_open ["form"] (defScope s_is_open) := ⟨rfl, rfl, rfl, by decide +kernel, rfl, by decide +kernel, by decide +kernel⟩
theorem ok_is_open (D : Def K mg "is_open" s_is_open ["form"]) (Z : Blt mg) (T : Cl P w K mg base CF CP) (G_names_one : Good P w K mg base 1 "names_one" ["word"] spBinds) (G_parts_of : Good P w K mg base 1 "parts_of" ["word"] spParts) :
    Good P w K mg base 2 "is_open" ["form"] (spIsOpen CF CP) := by
  refine D.ok sc_is_open (fun vs H Q E h => ?_) (fun cdv A outer s H vs Q E f hr h => ?_)
  · obtain ⟨p, l, f, rfl, _⟩ := h
    rfl
  obtain ⟨p, l, f, rfl, ⟨dx, us, h1, h2, h3, h4⟩, q⟩ := h
  refine ⟨_, (pss_cons (ps_if (PW.pt (pw_or (pt_cmpR op_eq (pe_fld (pv 0) rfl) pe_str (nomark _)) (pw_or1 (PW.pt (pw_and (pt_val (gcall G_names_one (hr.mono (by omega)) (pa_cons (pe_fld (pv 0) rfl) pa_nil))) (pw_and1 (pt_cmpR op_eq (pe_fld (pv 0) rfl) pe_str (nomark _)))))))) (pss_one (ps_ret pe_bl)) pss_nil)
    (pss_one (ps_ret (pe_cmpR op_lt (pe_callB call_len_seq (by rfl) Z.len (by decide +kernel) (pa_cons (pe_fld (pv 0) rfl) pa_nil)) (pe_callB call_len_str (by rfl) Z.len (by decide +kernel) (pa_cons (gcall G_parts_of (hr.mono (by omega)) (pa_cons (pe_fld (pv 0) rfl) pa_nil)) pa_nil)) (nomark _))))), ?_⟩
  refine ⟨_, rfl, p, CF, dx, _, _, rfl, h1, T.clF, T.nFw, fF_word _ _ _, rfl, _, rfl, ite2 (fun c => ?_) (fun c => ?_)⟩
  · have e : isOpenM f = false := by
      unfold isOpenM
      have e2 : f.w = "" := V.str.inj (of_decide_eq_true c)
      rw [decide_eq_true e2]
      rfl
    rw [e] at q
    exact iteT (q _ (Same.refl H))
  have c0 : decide (f.w = ("" : Str)) = false := decide_eq_false fun e => c (decide_eq_true (by rw [e]))
  refine ⟨_, rfl, p, CF, dx, _, _, rfl, h1, T.clF, T.nFw, fF_word _ _ _, f.w, rfl, fun H1 s1 => ⟨_, rfl, ?_⟩⟩
  by_cases c2 : bindS f.w = true
  · refine iteTc c2 ?_
    refine ⟨_, rfl, p, CF, dx, _, _, rfl, s1 _ _ h1, T.clF, T.nFb, fF_binder _ _ _, rfl, _, rfl, ite2 (fun c3 => ?_) (fun c3 => ?_)⟩
    · have e : isOpenM f = false := by
        unfold isOpenM
        have e2 : f.b = "" := V.str.inj (of_decide_eq_true c3)
        rw [decide_eq_true e2, c2, Bool.and_true, Bool.or_true]
        rfl
      rw [e] at q
      exact q _ s1
    have c4 : decide (f.b = ("" : Str)) = false := decide_eq_false fun e => c3 (decide_eq_true (by rw [e]))
    have S := s1
    refine ⟨_, rfl, p, CF, dx, _, _, rfl, S _ _ h1, T.clF, T.nFp, fF_parts _ _ _, l, us, rfl, .inl (SqL.of (S _ _ h2)), _, rfl, p, CF, dx, _, _, rfl, S _ _ h1, T.clF, T.nFw, fF_word _ _ _, f.w, rfl, fun H9 s9 => ?_⟩
    refine ⟨_, rfl, smallN (Nat.le_trans (partsS_len _) (by decide)), _, _, rfl, rfl, ?_⟩
    have e : decide ((us.length : Int) < ((partsS f.w).length : Int)) = isOpenM f := by
      unfold isOpenM
      rw [c0, c2, c4, Bool.and_false, Bool.or_false, Bool.not_false, Bool.true_and, h3.length]
      exact decide_eq_decide.mpr Int.ofNat_lt
    show Q (V.bl (decide ((us.length : Int) < ((partsS f.w).length : Int)))) H9
    rw [e]
    exact q _ (S.trans s9)
  · refine iteFc (Bool.eq_false_iff.mpr c2) (iteF ?_)
    have S := s1
    refine ⟨_, rfl, p, CF, dx, _, _, rfl, S _ _ h1, T.clF, T.nFp, fF_parts _ _ _, l, us, rfl, .inl (SqL.of (S _ _ h2)), _, rfl, p, CF, dx, _, _, rfl, S _ _ h1, T.clF, T.nFw, fF_word _ _ _, f.w, rfl, fun H9 s9 => ?_⟩
    refine ⟨_, rfl, smallN (Nat.le_trans (partsS_len _) (by decide)), _, _, rfl, rfl, ?_⟩
    have e : decide ((us.length : Int) < ((partsS f.w).length : Int)) = isOpenM f := by
      unfold isOpenM
      rw [c0, Bool.eq_false_iff.mpr c2, Bool.false_and, Bool.or_false, Bool.not_false, Bool.true_and, h3.length]
      exact decide_eq_decide.mpr Int.ofNat_lt
    show Q (V.bl (decide ((us.length : Int) < ((partsS f.w).length : Int)))) H9
    rw [e]
    exact q _ (S.trans s9)
abbrev n_headed : List Str := ["form", "word"]
theorem sc_headed : FnScope n_headed ["form", "word"] (defScope s_headed) := ⟨rfl, rfl, rfl, by decide +kernel, rfl, by decide +kernel, by decide +kernel⟩
theorem ok_headed (D : Def K mg "headed" s_headed ["form", "word"]) (Z : Blt mg) (T : Cl P w K mg base CF CP) (G_names_one : Good P w K mg base 1 "names_one" ["word"] spBinds) (G_parts_of : Good P w K mg base 1 "parts_of" ["word"] spParts)
    (G_is_free_word : Good P w K mg base 5 "is_free_word" ["word"] spName) : Good P w K mg base 6 "headed" ["form", "word"] (spHeaded CF CP) := by
  refine D.ok sc_headed (fun vs H Q E h => ?_) (fun cdv A outer s H vs Q E f hr h => ?_)
  · obtain ⟨p, l, f, f', z, rfl, _⟩ := h
    rfl
  obtain ⟨p, l, f, f', z, rfl, ⟨dx, us, h1, h2, h3, h4⟩, hz, hf, q⟩ := h
  refine ⟨_, (pss_one (ps_if (PW.pt (pw_and (pt_cmpR op_eq (pe_fld (pv 0) rfl) pe_str (nomark _)) (pw_and1 (pt_cmpR op_ne (gcall G_parts_of (hr.mono (by omega)) (pa_cons (pv 1) pa_nil)) pe_str (nomark _))))) (pss_one (ps_fld (pv 0) (pv 1) rfl)) (pss_one (ps_if (PW.pt (pw_and (pt_cmpR op_ne (pe_fld (pv 0) rfl) pe_str (nomark _)) (pw_and (pt_val (gcall G_names_one (hr.mono (by omega)) (pa_cons (pe_fld (pv 0) rfl) pa_nil))) (pw_and (pt_cmpR op_eq (pe_fld (pv 0) rfl) pe_str (nomark _)) (pw_and1 (pt_val (gcall G_is_free_word (hr.mono (by omega)) (pa_cons (pv 1) pa_nil)))))))) (pss_one (ps_fld (pv 0) (pv 1) rfl)) (pss_one ps_never))))), ?_⟩
  unfold headedM at hf
  have pl : ∀ H1 : Hp, Same H H1 → FormAt CF CP (upd H1 p (.ins CF dx (fF f'.w f'.b l))) p l ⟨f'.w, f'.b, f.ps⟩ := by
    intro H1 s1
    have nlp : l ≠ p := fun e => by
      rw [e, h1] at h2
      cases h2
    have k : Kp p H (upd H1 p (.ins CF dx (fF f'.w f'.b l))) := s1.kp.trans kp_upd
    refine ⟨dx, us, upd_same, k _ _ nlp h2, ?_, h4⟩
    by_cases e : CF = CP
    · exact absurd e T.ne
    · exact h3.kp k h1 (fun xs e2 => by cases e2) (fun dx fs e2 => by injection e2 with e3; exact e e3)
  refine ⟨_, rfl, p, CF, dx, _, _, rfl, h1, T.clF, T.nFw, fF_word _ _ _, rfl, _, rfl, ite2 (fun c => ?_) (fun c => ?_)⟩
  · have e : f.w = "" := V.str.inj (of_decide_eq_true c)
    rw [if_pos e] at hf
    by_cases c2 : partsS z = ""
    · rw [if_pos c2] at hf
      cases hf
    rw [if_neg c2] at hf
    have ef := Option.some.inj hf
    subst ef
    refine ⟨_, rfl, z, rfl, fun H1 s1 => ⟨rfl, _, rfl, iteTc ?_ ?_⟩⟩
    · rw [decide_eq_false (fun e => c2 (V.str.inj e))]
      rfl
    · refine ⟨_, rfl, _, rfl, p, CF, dx, _, rfl, s1 _ _ h1, T.clF, T.nFw, fF_len _ _ _, ?_⟩
      rw [fF_setW]
      exact q _ (s1.kp.trans kp_upd) (pl H1 s1)
  · have e : f.w ≠ "" := fun e => c (decide_eq_true (by rw [e]))
    rw [if_neg e] at hf
    by_cases c2 : (bindS f.w && (decide (f.b = "") && nameS z)) = true
    · rw [if_pos c2] at hf
      have ef := Option.some.inj hf
      subst ef
      simp only [Bool.and_eq_true, decide_eq_true_eq] at c2
      obtain ⟨q1, q2, q3⟩ := c2
      refine iteF ?_
      refine ⟨_, rfl, p, CF, dx, _, _, rfl, h1, T.clF, T.nFw, fF_word _ _ _, rfl, _, rfl, iteTc ?_ ?_⟩
      · rw [Bool.eq_false_iff.mpr c]
        rfl
      refine ⟨_, rfl, p, CF, dx, _, _, rfl, h1, T.clF, T.nFw, fF_word _ _ _, f.w, rfl, fun H1 s1 => ⟨_, rfl, iteTc q1 ?_⟩⟩
      refine ⟨_, rfl, p, CF, dx, _, _, rfl, s1 _ _ h1, T.clF, T.nFb, fF_binder _ _ _, rfl, _, rfl, iteTc (decide_eq_true (by rw [q2])) ?_⟩
      refine ⟨_, rfl, z, rfl, hz, fun H2 s2 => ⟨_, rfl, iteTc q3 ?_⟩⟩
      have S := s1.trans s2
      refine ⟨_, rfl, _, rfl, p, CF, dx, _, rfl, S _ _ h1, T.clF, T.nFb, fF_len _ _ _, ?_⟩
      rw [fF_setB]
      exact q _ (S.kp.trans kp_upd) (pl H2 S)
    · rw [if_neg c2] at hf
      cases hf
abbrev n_closed : List Str := ["forms", "form"]
theorem sc_closed : FnScope n_closed ["forms"] (defScope s_closed) := ⟨rfl, rfl, rfl, by decide +kernel, rfl, by decide +kernel, by decide +kernel⟩
theorem ok_closed (D : Def K mg "closed" s_closed ["forms"]) (Z : Blt mg) (T : Cl P w K mg base CF CP) (G_parts_of : Good P w K mg base 1 "parts_of" ["word"] spParts) (G_part_of : Good P w K mg base 3 "part_of" ["word", "parts"] (spPartOf CP)) :
    Good P w K mg base 4 "closed" ["forms"] (spClosed CF CP) := by
  refine D.ok sc_closed (fun vs H Q E h => ?_) (fun cdv A outer s H vs Q E f hr h => ?_)
  · obtain ⟨F, f, fr, a, r, p, fs', rfl, _⟩ := h
    rfl
  obtain ⟨F, f, fr, ⟨p, l⟩, r, pm, fs', rfl, hF, ⟨dx, us, h1, h2, h3, h4⟩, nlF, hc, q⟩ := h
  unfold closedM at hc
  dsimp only at hc h1 h2 nlF
  by_cases c : f.w ≠ "" ∧ (partsS f.w).length ≤ f.ps.length ∧ f.ps ≠ [] ∧ 1 + sumK f.ps ≤ 600 ∧ 1 + maxL f.ps ≤ 40
  case neg =>
    rw [if_neg c] at hc
    cases hc
  rw [if_pos c] at hc
  have e0 := Option.some.inj hc
  injection e0 with e1 e2
  subst e1 e2
  obtain ⟨c1, c2, c3, c4, c5⟩ := c
  have hR : refs ((p, l) :: r) = refs r ++ [V.ref p] := refs_cons _ _
  rw [hR] at hF
  refine ⟨_, (pss_cons (ps_if (PW.pt (pw_or (pt_not (pt_truth (pv 0) (by intro _; rfl))) (pw_or (pt_cmpR op_eq (pe_fld (pe_ix ix_list (pv 0) (pe_un un_neg pe_int) (fun _ _ => rfl)) rfl) pe_str (nomark _)) (pw_or1 (pt_cmpR op_lt (pe_callB call_len_seq (by rfl) Z.len (by decide +kernel) (pa_cons (pe_fld (pe_ix ix_list (pv 0) (pe_un un_neg pe_int) (fun _ _ => rfl)) rfl) pa_nil)) (pe_callB call_len_str (by rfl) Z.len (by decide +kernel) (pa_cons (gcall G_parts_of (hr.mono (by omega)) (pa_cons (pe_fld (pe_ix ix_list (pv 0) (pe_un un_neg pe_int) (fun _ _ => rfl)) rfl) pa_nil)) pa_nil)) (nomark _)))))) (pss_one ps_never) pss_nil)
    (pss_cons (ps_set (i := 1) sc_closed.nd rfl (Or.inl rfl) (pe_bm0 PySem.F.plainAttrs_list PySem.F.slot_list_pop PySem.F.type_list_pop mt_pop (pv 0)))
    (pss_one (ps_ret (gcall G_part_of (hr.mono (by omega)) (pa_cons (pe_fld (pv 1) rfl) (pa_cons (pe_fld (pv 1) rfl) pa_nil))))))), ?_⟩
  refine ⟨_, rfl, true, .inl ⟨_, SqL.of hF, ?_⟩, iteF ?_⟩
  · cases refs r <;> rfl
  refine ⟨_, rfl, _, rfl, F, _, _, _, rfl, rfl, SqL.of hF, atI_last _ _, p, CF, dx, _, _, rfl, h1, T.clF, T.nFw, fF_word _ _ _, rfl, _, rfl, iteFc (decide_eq_false fun e => c1 (V.str.inj e)) ?_⟩
  refine ⟨_, rfl, _, rfl, F, _, _, _, rfl, rfl, SqL.of hF, atI_last _ _, p, CF, dx, _, _, rfl, h1, T.clF, T.nFp, fF_parts _ _ _, l, us, rfl, .inl (SqL.of h2), ?_⟩
  refine ⟨_, rfl, _, rfl, F, _, _, _, rfl, rfl, SqL.of hF, atI_last _ _, p, CF, dx, _, _, rfl, h1, T.clF, T.nFw, fF_word _ _ _, f.w, rfl, fun H1 s1 => ?_⟩
  refine ⟨_, rfl, smallN (Nat.le_trans (partsS_len _) (by decide)), _, _, rfl, rfl, _, rfl, iteFc ?_ ?_⟩
  · rw [h3.length]
    exact decide_eq_false (by omega)
  refine ⟨_, rfl, .inl ⟨rfl, _, SqL.of (s1 _ _ hF)⟩, F, _, V.ref p, rfl, rfl, s1 _ _ hF, ?_, ?_⟩
  · rw [List.length_append, List.length_singleton, Nat.add_sub_cancel, List.getElem?_append_right (Nat.le_refl _), Nat.sub_self]
    rfl
  rw [List.dropLast_concat]
  have npF : p ≠ F := fun e => by
    rw [e, hF] at h1
    cases h1
  have k : Kp F H (upd H1 F (.lst (refs r))) := s1.kp.trans kp_upd
  have hp2 := h3.kp k hF (fun xs e => by cases e) (fun dx fs e => by cases e)
  refine ⟨_, rfl, p, CF, dx, _, _, rfl, k _ _ npF h1, T.clF, T.nFw, fF_word _ _ _, _, rfl, p, CF, dx, _, _, rfl, k _ _ npF h1, T.clF, T.nFp, fF_parts _ _ _, ?_⟩
  refine ⟨f.w, l, us, f.ps, rfl, k _ _ nlF h2, hp2, c3, by omega, c4, c5, fun y H' s2 hy => ?_⟩
  exact q y H' rfl (k.trans s2.kp) (s2 _ _ upd_same) hy
abbrev n_placed_part : List Str := ["forms", "part", "want"]
theorem sc_placed_part : FnScope n_placed_part ["forms", "part", "want"] (defScope s_placed_part) := ⟨rfl, rfl, rfl, by decide +kernel, rfl, by decide +kernel, by decide +kernel⟩
theorem ok_placed_part (D : Def K mg "placed_part" s_placed_part ["forms", "part", "want"]) (Z : Blt mg) (T : Cl P w K mg base CF CP) (G_parts_of : Good P w K mg base 1 "parts_of" ["word"] spParts) (G_is_kind_form : Good P w K mg base 1 "is_kind_form" ["word"] spKindW) :
    Good P w K mg base 2 "placed_part" ["forms", "part", "want"] (spPlaced CF CP) := by
  refine D.ok sc_placed_part (fun vs H Q E h => ?_) (fun cdv A outer s H vs Q E f hr h => ?_)
  · obtain ⟨F, x, b, fs, as, p, st, rfl, _⟩ := h
    rfl
  obtain ⟨F, x, b, fs, as, pm, st, rfl, hF, hfs, ⟨pa, pdx, px, e0, hp1, hp2⟩, hst, q1, q2⟩ := h
  subst e0
  refine ⟨_, (pss_cons (ps_if (pt_truth (pv 0) (by intro _; rfl)) (pss_one (ps_set (i := 2) sc_placed_part.nd rfl (Or.inl rfl) (pe_ix ix_str (gcall G_parts_of (hr.mono (by omega)) (pa_cons (pe_fld (pe_ix ix_list (pv 0) (pe_un un_neg pe_int) (fun _ _ => rfl)) rfl) pa_nil)) (pe_callB call_len_seq (by rfl) Z.len (by decide +kernel) (pa_cons (pe_fld (pe_ix ix_list (pv 0) (pe_un un_neg pe_int) (fun _ _ => rfl)) rfl) pa_nil)) (fun _ _ => rfl)))) pss_nil)
    (pss_cons (ps_if (pt_cmpR op_ne (gcall G_is_kind_form (hr.mono (by omega)) (pa_cons (pe_fld (pv 1) rfl) pa_nil)) (pe_cmpR op_eq (pv 2) pe_str (nomark _)) (nomark _)) (pss_one ps_never) pss_nil)
    (pss_cons (ps_if (pt_not (pt_truth (pv 0) (by intro _; rfl))) (pss_one (ps_ret (pv 1))) pss_nil)
    (pss_cons (ps_expr (pe_bm PySem.F.plainAttrs_list PySem.F.slot_list_append PySem.F.type_list_append mt_append (pe_fld (pe_ix ix_list (pv 0) (pe_un un_neg pe_int) (fun _ _ => rfl)) rfl) (pa_cons (pv 1) pa_nil)))
    (pss_one (ps_ret pe_non)))))), ?_⟩
  cases fs with
  | nil =>
    have ea : as = [] := hfs
    subst ea
    have hw : placedM [] pm (wantT b) = if kindS pm.w = b then some ([], some pm) else none := by
      unfold placedM wantS
      rw [wantT_c]
      dsimp only
      rw [wantC_k]
    rw [hw] at hst
    by_cases c : kindS pm.w = b
    · rw [if_pos c] at hst
      have e := (Option.some.inj hst).symm
      refine ⟨_, rfl, false, .inl ⟨_, SqL.of hF, rfl⟩, iteF ?_⟩
      refine ⟨_, rfl, pa, CP, pdx, _, _, rfl, hp1, T.clP, T.nPw, pF_word _ _ _ _, pm.w, rfl, fun H1 s1 => ⟨_, rfl, rfl, rfl, _, rfl, iteFc ?_ ?_⟩⟩
      · have e2 : decide (V.str (wantT b) = V.str "k") = b := by cases b <;> decide +kernel
        rw [e2, c]
        show (!decide (V.bl b = V.bl b)) = false
        rw [decide_eq_true rfl]
        rfl
      · refine ⟨_, rfl, false, .inl ⟨_, SqL.of (s1 _ _ hF), rfl⟩, iteTc rfl ⟨_, rfl, q1 rfl e _ s1⟩⟩
    · rw [if_neg c] at hst
      cases hst
  | cons f fr =>
    obtain ⟨⟨p, l⟩, r, ea, ⟨dx, us, h1, h2, h3, h4⟩, hfr⟩ := hfs
    subst ea
    dsimp only at h1 h2
    have hR : refs ((p, l) :: r) = refs r ++ [V.ref p] := refs_cons _ _
    rw [hR] at hF
    unfold placedM at hst
    cases ew : wantS (f :: fr) (wantT b) with
    | none =>
      rw [ew] at hst
      cases hst
    | some c =>
      rw [ew] at hst
      dsimp only at hst
      by_cases c1 : kindS pm.w = decide (c = 107)
      case neg =>
        rw [if_neg c1] at hst
        cases hst
      rw [if_pos c1] at hst
      have e := (Option.some.inj hst).symm
      have ew2 : (TL.tl (partsS f.w))[f.ps.length]? = some c := ew
      have hlt : f.ps.length < (partsS f.w).length := by
        rw [TL.len_tl]
        exact (List.getElem?_eq_some_iff.mp ew2).1
      have h5 := partsS_len f.w
      have ne : ((refs r ++ [V.ref p]).isEmpty) = false := by cases refs r <;> rfl
      refine ⟨_, rfl, true, .inl ⟨_, SqL.of hF, by rw [ne]; rfl⟩, iteT ?_⟩
      refine ⟨_, rfl, _, rfl, F, _, _, _, rfl, rfl, SqL.of hF, atI_last _ _, p, CF, dx, _, _, rfl, h1, T.clF, T.nFw, fF_word _ _ _, f.w, rfl, fun H1 s1 => ?_⟩
      refine ⟨_, rfl, _, rfl, F, _, _, _, rfl, rfl, SqL.of (s1 _ _ hF), atI_last _ _, p, CF, dx, _, _, rfl, s1 _ _ h1, T.clF, T.nFp, fF_parts _ _ _, l, us, rfl, .inl (SqL.of (s1 _ _ h2)), ?_⟩
      refine ⟨_, _, c, rfl, rfl, smallN (by omega), ?_, ?_⟩
      · rw [h3.length]
        exact atI_nat ew2
      refine ⟨_, rfl, pa, CP, pdx, _, _, rfl, s1 _ _ hp1, T.clP, T.nPw, pF_word _ _ _ _, pm.w, rfl, fun H2 s2 => ⟨_, rfl, rfl, rfl, _, rfl, iteFc ?_ ?_⟩⟩
      · have e2 : decide (V.str ⟨#[c]⟩ = V.str "k") = decide (c = 107) := by
          refine decide_eq_decide.mpr ⟨fun e => ?_, fun e => ?_⟩
          · have e3 := congrArg TL.tl (V.str.inj e)
            have e4 : TL.tl ("k" : Str) = [107] := by decide +kernel
            rw [e4] at e3
            have e5 : [c] = [107] := e3
            simpa using e5
          · subst e
            decide +kernel
        rw [e2, c1]
        show (!decide (V.bl (decide (c = 107)) = V.bl (decide (c = 107)))) = false
        rw [decide_eq_true rfl]
        rfl
      have S := s1.trans s2
      refine ⟨_, rfl, true, .inl ⟨_, SqL.of (S _ _ hF), by rw [ne]; rfl⟩, iteFc rfl ?_⟩
      refine ⟨_, rfl, _, rfl, F, _, _, _, rfl, rfl, SqL.of (S _ _ hF), atI_last _ _, p, CF, dx, _, _, rfl, S _ _ h1, T.clF, T.nFp, fF_parts _ _ _, ?_⟩
      refine ⟨.inl ⟨rfl, _, SqL.of (S _ _ h2)⟩, _, rfl, l, us, _, rfl, rfl, S _ _ h2, smallLt (by rw [h3.length]; omega), ?_⟩
      have npl : p ≠ l := fun e => by
        rw [e, h2] at h1
        cases h1
      have k : Kp l H (upd H2 l (.lst (us ++ [V.ref pa]))) := S.kp.trans kp_upd
      refine q2 (p, l) r f fr rfl rfl e _ k ⟨dx, us ++ [V.ref pa], k _ _ npl h1, upd_same, ?_, ?_⟩
      · exact (h3.kp k h2 (fun xs e => by cases e) (fun dx fs e => by cases e)).snoc (PartAt.kp ⟨pa, pdx, px, rfl, hp1, hp2⟩ k h2 (fun xs e => by cases e) (fun dx fs e => by cases e))
      · show (f.ps ++ [pm]).length ≤ 4
        rw [List.length_append, List.length_singleton]
        omega
end
end KP
set_option Elab.async false
set_option linter.all false
set_option maxRecDepth 100000
set_option maxHeartbeats 4000000
/-! KpRead4: words read. -/
namespace KP
open PySem PySem.Spec PyProof.Rows L2
theorem refs_at {as : List (Addr × Addr)} {i : Nat} {x : V} (h : (refs as)[(refs as).length - 1 - i]? = some x) (hi : i < as.length) : ∃ a, as[i]? = some a ∧ x = .ref a.1 := by
  unfold refs at h
  rw [List.length_reverse, List.length_map] at h
  rw [List.getElem?_reverse (by rw [List.length_map]; omega), List.length_map] at h
  have e : as.length - 1 - (as.length - 1 - i) = i := by omega
  rw [e, List.getElem?_map] at h
  obtain ⟨a, ha, e2⟩ := Option.map_eq_some_iff.mp h
  exact ⟨a, ha, e2.symm⟩
theorem zero_no : ¬ (("zero" : Str) = "nat" ∨ ("zero" : Str) = "none") ∧ nameS "zero" = false ∧ (List.range 40).find? (fun n => decide (numT n = "zero")) = none := by decide +kernel
section
variable {P : Program} {w : World} {K : PySem.W.Frag} {mg : Str → Option Value} {base : Heap} {CF CP : Addr}
abbrev n_named_part : List Str := ["word", "forms", "names", "over", "form"]
theorem sc_named_part : FnScope n_named_part ["word", "forms", "names"] (defScope s_named_part) := ⟨rfl, rfl, rfl, by decide +kernel, rfl, by decide +kernel, by decide +kernel⟩
theorem ok_named_part (D : Def K mg "named_part" s_named_part ["word", "forms", "names"]) (Z : Blt mg) (T : Cl P w K mg base CF CP) (G_binds_now : Good P w K mg base 2 "binds_now" ["form"] (spBindsNow CF CP)) (G_variable_part : Good P w K mg base 3 "variable_part" ["number"] (spVarPart CP)) :
    Good P w K mg base 4 "named_part" ["word", "forms", "names"] (spNamed CF CP) := by
  obtain ⟨fP, fdP, M_Part, GF_Part, b_Part⟩ := T.mkP
  have mg_Part := T.mgP
  refine D.ok sc_named_part (fun vs H Q E h => ?_) (fun cdv A outer s H vs Q E f hr h => ?_)
  · obtain ⟨z, F, n, fs, as, names, p, rfl, _⟩ := h
    rfl
  obtain ⟨z, F, n, fs, as, names, p, rfl, hF, hfs, hn, hg, q⟩ := h
  have var : ∀ {o : Nat}, varM o = some p → o ≤ 99 ∧ p = ⟨.v o, "var", 1, 1⟩ := by
    intro o e
    unfold varM at e
    by_cases c : o ≤ 99
    · rw [if_pos c] at e
      exact ⟨c, (Option.some.inj e).symm⟩
    · rw [if_neg c] at e
      cases e
  refine ⟨_, (pss_cons (ps_set (i := 3) sc_named_part.nd rfl (Or.inl rfl) pe_int)
    (pss_cons (ps_for PassesOwn.never rfl (pi_reversed (by rfl) Z.reversed (pa_cons (pv 1) pa_nil)) (pg_name (i := 4) sc_named_part.nd rfl (Or.inl rfl)) (pss_one (ps_if (pt_val (gcall G_binds_now (hr.mono (by omega)) (pa_cons (pv 4) pa_nil))) (pss_cons (ps_if (pt_cmpR op_eq (pe_fld (pv 4) rfl) (pv 0) (nomark _)) (pss_one (ps_ret (gcall G_variable_part (hr.mono (by omega)) (pa_cons (pv 3) pa_nil)))) pss_nil)
        (pss_one (ps_set (i := 3) sc_named_part.nd rfl (Or.inl rfl) (pe_op op_add (pv 3) pe_int)))) pss_nil)))
    (pss_cons (ps_if (pt_cmpR op_in_seq (pv 0) (pv 2) (by rfl)) (pss_one (ps_ret (gcall G_variable_part (hr.mono (by omega)) (pa_cons (pe_op op_add (pv 3) (pe_bm PySem.F.plainAttrs_list PySem.F.slot_list_index PySem.F.type_list_index mt_index (pv 2) (pa_cons (pv 0) pa_nil))) pa_nil)))) pss_nil)
    (pss_one (ps_ret (pe_make M_Part GF_Part (hr.mono (by omega)) (by rfl) mg_Part b_Part .nil pass0 (pa_cons (pe_tup (pa_cons pe_str (pa_cons (pv 0) pa_nil))) (pa_cons pe_str (pa_cons pe_int (pa_cons pe_int pa_nil)))))))))), ?_⟩
  refine ⟨_, rfl, F, _, rfl, SqL.of hF, for_it walk_rev (fun i σ H' => ∃ (o : Nat) (x4 : Option V), σ = [some (.str z), some (.ref F), some (.ref n), some (.int (o : Int)), x4] ∧ Same H H' ∧ namedGo z names (fs.drop i) o = some p) ⟨0, none, rfl, Same.refl H, hg⟩ ?_ ?_ ?_⟩
  · rintro i σ H1 hi ⟨o, x4, rfl, s1, _⟩
    exact SqL.of (s1 _ _ hF)
  · rintro i x σ H1 H2 hi ⟨o, x4, rfl, s1, g1⟩ ⟨rfl, hx⟩
    rw [refs_len] at hi
    obtain ⟨⟨a, l⟩, ha, rfl⟩ := refs_at hx hi
    obtain ⟨f, ef, hf⟩ := hfs.get ha
    rw [ef] at g1
    unfold namedGo at g1
    have hf1 := hf.same s1
    obtain ⟨dx, us, h1, h2, h3, h4⟩ := hf
    dsimp only at h1 h2
    refine ⟨_, rfl, a, l, f, rfl, hf1, fun H3 s3 => ⟨_, rfl, ?_⟩⟩
    have S := s1.trans s3
    by_cases c : bindsM f = true
    · rw [if_pos c] at g1
      refine iteTc c ?_
      refine ⟨_, rfl, a, CF, dx, _, _, rfl, S _ _ h1, T.clF, T.nFb, fF_binder _ _ _, _, rfl, rfl, _, rfl, ite2 (fun c2 => ?_) (fun c2 => ?_)⟩
      · have e : f.b = z := V.str.inj (of_decide_eq_true c2)
        rw [if_pos e] at g1
        obtain ⟨g2, e2⟩ := var g1
        refine ⟨_, rfl, o, rfl, g2, fun y H' s4 hy => ?_⟩
        rw [← e2] at hy
        exact q y H' (S.trans s4) hy
      · have e : f.b ≠ z := fun e => c2 (decide_eq_true (by rw [e]))
        rw [if_neg e] at g1
        exact ⟨_, rfl, _, _, rfl, rfl, o + 1, _, rfl, S, g1⟩
    · rw [if_neg c] at g1
      exact iteFc (Bool.eq_false_iff.mpr c) ⟨o, _, rfl, S, g1⟩
  · rintro σ H1 ⟨o, x4, rfl, s1, g1⟩
    rw [refs_len, List.drop_of_length_le (Nat.le_of_eq hfs.length.symm)] at g1
    unfold namedGo at g1
    refine ⟨_, rfl, _, rfl, n, _, rfl, .inl (SqL.of (s1 _ _ hn)), rfl, flat_str _, _, rfl, ite2 (fun c => ?_) (fun c => ?_)⟩
    · have e : z ∈ names := by
        have c2 : inV (V.str z) (names.map V.str) = true := c
        rw [inV_str] at c2
        exact of_decide_eq_true c2
      rw [if_pos e] at g1
      obtain ⟨g2, e2⟩ := var g1
      have hlt := List.idxOf_lt_length_of_mem e
      refine ⟨_, rfl, _, rfl, .inl ⟨rfl, _, SqL.of (s1 _ _ hn)⟩, _, rfl, n, names.map V.str, .str z, names.idxOf z, .str z, rfl, rfl, SqL.of (s1 _ _ hn), rfl, flat_str _, ?_, ?_, ?_, _, _, rfl, rfl, o + names.idxOf z, rfl, g2, fun y H' s4 hy => ?_⟩
      · rw [List.getElem?_map, List.getElem?_eq_getElem hlt, List.getElem_idxOf hlt]
        rfl
      · show decide (z = z) = true
        exact decide_eq_true rfl
      · intro m z' hm hz'
        rw [List.getElem?_map] at hz'
        obtain ⟨y, hy, e3⟩ := Option.map_eq_some_iff.mp hz'
        subst e3
        show decide (y = z) = false
        exact decide_eq_false (idx_ahead hm hy)
      · rw [← e2] at hy
        exact q y H' (s1.trans s4) hy
    · have e : z ∉ names := fun e => c (by rw [inV_str]; exact decide_eq_true e)
      rw [if_neg e] at g1
      have ep := (Option.some.inj g1).symm
      refine ⟨_, rfl, smallN (by show 2 ≤ 1000000; decide), fun t ht x dx hx hdx _ => ?_⟩
      have s2 : Same H1 (upd H1 t (.tup [V.str "name", V.str z])) := same_new ht _
      refine made_part (t := .nm z) (v := .ref t) (z := "name") (kn := 1) (lv := 1) hx hdx (by unfold At; exact ⟨t, rfl, upd_same⟩) fun y H' s3 h3 => ?_
      rw [← ep] at h3
      exact q y H' ((s1.trans s2).trans s3) h3
abbrev n_leaf_part : List Str := ["word", "forms", "names", "number"]
theorem sc_leaf_part : FnScope n_leaf_part ["word", "forms", "names"] (defScope s_leaf_part) := ⟨rfl, rfl, rfl, by decide +kernel, rfl, by decide +kernel, by decide +kernel⟩
theorem ok_leaf_part (D : Def K mg "leaf_part" s_leaf_part ["word", "forms", "names"]) (Z : Blt mg) (T : Cl P w K mg base CF CP) (G_is_free_word : Good P w K mg base 5 "is_free_word" ["word"] spName) (G_named_part : Good P w K mg base 4 "named_part" ["word", "forms", "names"] (spNamed CF CP))
    (G_number_of : Good P w K mg base 1 "number_of" ["word"] spNumber) (G_figures_part : Good P w K mg base 3 "figures_part" ["number"] (spFigPart CP)) :
    Good P w K mg base 6 "leaf_part" ["word", "forms", "names"] (spLeaf CF CP) := by
  obtain ⟨fP, fdP, M_Part, GF_Part, b_Part⟩ := T.mkP
  have mg_Part := T.mgP
  refine D.ok sc_leaf_part (fun vs H Q E h => ?_) (fun cdv A outer s H vs Q E f hr h => ?_)
  · obtain ⟨z, F, n, fs, as, names, p, rfl, _⟩ := h
    rfl
  obtain ⟨z, F, n, fs, as, names, p, rfl, hF, hfs, hn, hz, hl, q⟩ := h
  refine ⟨_, (pss_cons (ps_if (pt_cmpR op_in_seq (pv 0) (pe_tup (pa_cons pe_str (pa_cons pe_str (pa_cons pe_str pa_nil)))) (by rfl)) (pss_one (ps_ret (pe_make M_Part GF_Part (hr.mono (by omega)) (by rfl) mg_Part b_Part .nil pass0 (pa_cons (pe_tup (pa_cons (pv 0) pa_nil)) (pa_cons (pv 0) (pa_cons pe_int (pa_cons pe_int pa_nil))))))) pss_nil)
    (pss_cons (ps_if (pt_val (gcall G_is_free_word (hr.mono (by omega)) (pa_cons (pv 0) pa_nil))) (pss_one (ps_ret (gcall G_named_part (hr.mono (by omega)) (pa_cons (pv 0) (pa_cons (pv 1) (pa_cons (pv 2) pa_nil)))))) pss_nil)
    (pss_cons (ps_set (i := 3) sc_leaf_part.nd rfl (Or.inl rfl) (gcall G_number_of (hr.mono (by omega)) (pa_cons (pv 0) pa_nil)))
    (pss_cons (ps_if (pt_cmpR op_isN (pv 3) pe_non (nomark _)) (pss_one ps_never) pss_nil)
    (pss_one (ps_ret (gcall G_figures_part (hr.mono (by omega)) (pa_cons (pv 3) pa_nil)))))))), ?_⟩
  have z3 : z = "zero" → False := fun e => by
    have h0 : leafM "zero" fs names = none := by
      unfold leafM
      rw [if_neg zero_no.1, zero_no.2.1, if_neg Bool.false_ne_true, zero_no.2.2]
    rw [e, h0] at hl
    cases hl
  refine in_val (ws := kwdLeaf) rfl (fun _ _ h => h) (by decide) fun H1 s1 => ⟨_, rfl, ite2 (fun c => ?_) (fun c => ?_)⟩
  · have hm : z ∈ kwdLeaf := of_decide_eq_true c
    have e : z = "nat" ∨ z = "none" := by
      simp only [kwdLeaf, List.mem_cons, List.not_mem_nil, or_false] at hm
      rcases hm with e | e | e
      · exact .inl e
      · exact .inr e
      · exact (z3 e).elim
    unfold leafM at hl
    rw [if_pos e] at hl
    have ep := (Option.some.inj hl).symm
    refine ⟨_, rfl, smallN (by show 1 ≤ 1000000; decide), fun t ht => ⟨_, rfl, fun x dx hx hdx _ => ?_⟩⟩
    have s2 : Same H1 (upd H1 t (.tup [V.str z])) := same_new ht _
    refine made_part (t := .nd z []) (v := .ref t) (z := z) (kn := 1) (lv := 1) hx hdx (At.mk (ks := []) upd_same .nil) fun y H' s3 h3 => ?_
    rw [← ep] at h3
    exact q y H' ((s1.trans s2).trans s3) h3
  · have e : ¬ (z = "nat" ∨ z = "none") := fun e => c (decide_eq_true (by rcases e with e | e <;> rw [e] <;> decide +kernel))
    unfold leafM at hl
    rw [if_neg e] at hl
    refine ⟨_, rfl, z, rfl, hz, fun H2 s2 => ⟨_, rfl, ?_⟩⟩
    have S := s1.trans s2
    by_cases c2 : nameS z = true
    · rw [if_pos c2] at hl
      refine iteTc c2 ?_
      exact ⟨_, rfl, _, rfl, _, rfl, z, F, n, fs, as, names, p, rfl, S _ _ hF, hfs.same S, S _ _ hn, hl, fun y H' s3 hy => q y H' (S.trans s3) hy⟩
    · rw [if_neg c2] at hl
      refine iteFc (Bool.eq_false_iff.mpr c2) ?_
      cases ef : (List.range 40).find? (fun n => decide (numT n = z)) with
      | none =>
        rw [ef] at hl
        cases hl
      | some k =>
        rw [ef] at hl
        have ep := (Option.some.inj hl).symm
        have hk := List.mem_range.mp (List.mem_of_find?_eq_some ef)
        have ez' : decide (numT k = z) = true := List.find?_some (p := fun n => decide (numT n = z)) ef
        have ez : numT k = z := of_decide_eq_true ez'
        subst ez
        refine ⟨_, rfl, k, rfl, hk, ?_⟩
        refine ⟨_, rfl, rfl, _, rfl, iteF ?_⟩
        refine ⟨_, rfl, k, rfl, hk, fun y H' s3 hy => ?_⟩
        rw [← ep] at hy
        exact q y H' (S.trans s3) hy
end
end KP
set_option Elab.async false
set_option linter.all false
set_option maxRecDepth 100000
set_option maxHeartbeats 4000000
/-! KpRead5: a text read. -/
namespace KP
open PySem PySem.Spec PyProof.Rows L2
/-! ### how long the words are -/
theorem scan_len (n : Nat) : ∀ (cs : List Nat) (i : Nat) (st : List Str × Str), st.1.length ≤ 2 * i → st.2.length ≤ i → (∀ w ∈ st.1, w.length ≤ n) → i + cs.length ≤ n → 1 ≤ n →
    (cs.foldl scan1 st).1.length ≤ 2 * (i + cs.length) ∧ ∀ w ∈ (cs.foldl scan1 st).1, w.length ≤ n
  | [], i, st, h1, h2, h3, h4, h5 => ⟨h1, h3⟩
  | c :: cs, i, st, h1, h2, h3, h4, h5 => by
    rw [List.length_cons] at h4
    have hs : (scan1 st c).1.length ≤ 2 * (i + 1) ∧ (scan1 st c).2.length ≤ i + 1 ∧ ∀ w ∈ (scan1 st c).1, w.length ≤ n := by
      have fl : (flush st.1 st.2).length ≤ 2 * i + 1 ∧ ∀ w ∈ flush st.1 st.2, w.length ≤ n := by
        unfold flush
        by_cases c : st.2 = ""
        · rw [if_pos c]
          exact ⟨by omega, h3⟩
        · rw [if_neg c]
          refine ⟨by rw [List.length_append, List.length_singleton]; omega, fun w hw => ?_⟩
          rcases List.mem_append.mp hw with h | h
          · exact h3 w h
          · rw [List.mem_singleton.mp h]
            omega
      have e0 : ("" : Str).length = 0 := by decide +kernel
      unfold scan1
      by_cases q : isSp c = true
      · rw [if_pos q]
        refine ⟨?_, by show ("" : Str).length ≤ i + 1; omega, ?_⟩
        · dsimp only
          by_cases q2 : isBr c = true
          · rw [if_pos q2, List.length_append, List.length_singleton]
            omega
          · rw [if_neg q2]
            omega
        · dsimp only
          by_cases q2 : isBr c = true
          · rw [if_pos q2]
            intro w hw
            rcases List.mem_append.mp hw with h | h
            · exact fl.2 w h
            · rw [List.mem_singleton.mp h]
              exact h5
          · rw [if_neg q2]
            exact fl.2
      · rw [if_neg q]
        refine ⟨by show st.1.length ≤ 2 * (i + 1); omega, ?_, h3⟩
        show (st.2 ++ (⟨#[c]⟩ : Str)).length ≤ i + 1
        rw [len_app]
        show st.2.length + 1 ≤ i + 1
        omega
    have q := scan_len n cs (i + 1) (scan1 st c) hs.1 hs.2.1 hs.2.2 (by omega) h5
    rw [List.length_cons]
    refine ⟨?_, q.2⟩
    have := q.1
    show ((cs.foldl scan1 (scan1 st c))).1.length ≤ _
    omega
theorem words_len (z : Str) : (wordsS z).length ≤ 2 * (z.length + 1) ∧ ∀ w ∈ wordsS z, w.length ≤ z.length + 1 := by
  have e0 : ("" : Str).length = 0 := by decide +kernel
  have e1 : (TL.tl z ++ [32]).length = z.length + 1 := by rw [List.length_append, List.length_singleton, ← TL.len_tl]
  have q := scan_len (z.length + 1) (TL.tl z ++ [32]) 0 ([], "") (Nat.zero_le _) (by show ("" : Str).length ≤ 0; omega) (fun w hw => by cases hw) (by omega) (by omega)
  rw [e1, Nat.zero_add] at q
  exact q
/-! ### the stack of the open forms -/
theorem FsAt.mem {CF CP : Addr} {H : Hp} : ∀ {fs : List FM} {as : List (Addr × Addr)}, FsAt CF CP H fs as → ∀ a ∈ as, (∃ dx ff, H a.1 = some (.ins CF dx ff)) ∧ ∃ us, H a.2 = some (.lst us)
  | [], as, h, a, ha => by
    have e : as = [] := h
    subst e
    cases ha
  | f :: fs, as, h, a, ha => by
    obtain ⟨b, r, e, ⟨dx, us, h1, h2, h3, h4⟩, h5⟩ := h
    subst e
    rcases List.mem_cons.mp ha with e | ha
    · subst e
      exact ⟨⟨dx, _, h1⟩, us, h2⟩
    · exact FsAt.mem h5 a ha
structure Stk (CF CP : Addr) (HB H : Hp) (F : Addr) (fs : List FM) (as : List (Addr × Addr)) : Prop where
  lst : H F = some (.lst (refs as))
  fsat : FsAt CF CP H fs as
  nd1 : (as.map Prod.fst).Nodup
  nd2 : (as.map Prod.snd).Nodup
  new : ∀ a ∈ as, HB a.1 = none ∧ HB a.2 = none
  same : Kp F HB H
def FoundAt (CP : Addr) (H : Hp) (fnd : Option PM) (v : V) : Prop := match fnd with
  | none => v = .non
  | some p => PartAt CP H v p
theorem Kp.new {F d : Addr} {HB H H' : Hp} (s : Kp F HB H) (hd : HB d = none) (k : Kp d H H') : Kp F HB H' := fun c o n h => k c o (ne_of_none h hd) (s c o n h)
theorem Stk.same' {CF CP : Addr} {HB H H' : Hp} {F : Addr} {fs : List FM} {as : List (Addr × Addr)} (S : Stk CF CP HB H F fs as) (s : Same H H') : Stk CF CP HB H' F fs as :=
  ⟨s _ _ S.lst, S.fsat.same s, S.nd1, S.nd2, S.new, S.same.trans s.kp⟩
theorem Stk.nF {CF CP : Addr} {HB H : Hp} {F : Addr} {fs : List FM} {as : List (Addr × Addr)} {o : HO} (S : Stk CF CP HB H F fs as) (hF : HB F = some o) {a : Addr × Addr} (ha : a ∈ as) : a.1 ≠ F ∧ a.2 ≠ F := by
  have q := S.new a ha
  refine ⟨fun e => ?_, fun e => ?_⟩
  · rw [e, hF] at q
    cases q.1
  · rw [e, hF] at q
    cases q.2
theorem Stk.top {CF CP : Addr} {HB H : Hp} {F : Addr} {f : FM} {fr : List FM} {as : List (Addr × Addr)} (S : Stk CF CP HB H F (f :: fr) as) : ∃ a r, as = a :: r ∧ FormAt CF CP H a.1 a.2 f ∧ FsAt CF CP H fr r := S.fsat
/-- the top form's list grew -/
theorem Stk.grow {CF CP : Addr} {HB H H' : Hp} {F : Addr} {f f' : FM} {fr : List FM} {a : Addr × Addr} {r : List (Addr × Addr)} {o : HO} (S : Stk CF CP HB H F (f :: fr) (a :: r)) (hF : HB F = some o) (k : Kp a.2 H H') (h : FormAt CF CP H' a.1 a.2 f') :
    Stk CF CP HB H' F (f' :: fr) (a :: r) := by
  obtain ⟨a', r', e, ⟨dx, us, h1, h2, h3, h4⟩, h5⟩ := S.fsat
  injection e with e1 e2
  subst e1 e2
  have n2 := List.nodup_cons.mp S.nd2
  have hn := S.nF hF (a := a) List.mem_cons_self
  refine ⟨k _ _ (Ne.symm hn.2) S.lst, ⟨a, r, rfl, h, h5.kp k h2 (fun xs e => by cases e) (fun dx fs e => by cases e) fun b hb => ⟨fun e => ?_, fun e => ?_⟩⟩, S.nd1, S.nd2, S.new, S.same.new (S.new a List.mem_cons_self).2 k⟩
  · obtain ⟨⟨dx, ff, q⟩, _⟩ := h5.mem b hb
    rw [e, h2] at q
    cases q
  · exact n2.1 (List.mem_map.mpr ⟨b, hb, e⟩)
/-- the top form's word changed -/
theorem Stk.name {CF CP : Addr} {HB H H' : Hp} {F : Addr} {f f' : FM} {fr : List FM} {a : Addr × Addr} {r : List (Addr × Addr)} {o : HO} (S : Stk CF CP HB H F (f :: fr) (a :: r)) (hF : HB F = some o) (ne : CF ≠ CP) (k : Kp a.1 H H') (h : FormAt CF CP H' a.1 a.2 f') :
    Stk CF CP HB H' F (f' :: fr) (a :: r) := by
  obtain ⟨a', r', e, ⟨dx, us, h1, h2, h3, h4⟩, h5⟩ := S.fsat
  injection e with e1 e2
  subst e1 e2
  have n1 := List.nodup_cons.mp S.nd1
  have hn := S.nF hF (a := a) List.mem_cons_self
  refine ⟨k _ _ (Ne.symm hn.1) S.lst, ⟨a, r, rfl, h, h5.kp k h1 (fun xs e => by cases e) (fun dx fs e => by injection e with e; exact ne e) fun b hb => ⟨fun e => ?_, fun e => ?_⟩⟩, S.nd1, S.nd2, S.new, S.same.new (S.new a List.mem_cons_self).1 k⟩
  · exact n1.1 (List.mem_map.mpr ⟨b, hb, e⟩)
  · obtain ⟨_, us, q⟩ := h5.mem b hb
    rw [e, h1] at q
    cases q
/-- the top form taken away -/
theorem Stk.drop {CF CP : Addr} {HB H H' : Hp} {F : Addr} {f : FM} {fr : List FM} {a : Addr × Addr} {r : List (Addr × Addr)} {o : HO} (S : Stk CF CP HB H F (f :: fr) (a :: r)) (hF : HB F = some o) (k : Kp F H H') (h : H' F = some (.lst (refs r))) : Stk CF CP HB H' F fr r := by
  obtain ⟨a', r', e, h0, h5⟩ := S.fsat
  injection e with e1 e2
  subst e1 e2
  exact ⟨h, h5.kp k S.lst (fun xs e => by cases e) (fun dx fs e => by cases e) fun b hb => S.nF hF (List.mem_cons_of_mem _ hb), (List.nodup_cons.mp S.nd1).2, (List.nodup_cons.mp S.nd2).2, fun b hb => S.new b (List.mem_cons_of_mem _ hb), S.same.trans k⟩
/-- a new form -/
theorem Stk.push {CF CP : Addr} {HB H H' : Hp} {F p l dx : Addr} {fs : List FM} {as : List (Addr × Addr)} {o : HO} (S : Stk CF CP HB H F fs as) (hF : HB F = some o) (s : Same H H') (hp : H p = none) (hl : H l = none) (h1 : H' p = some (.ins CF dx (fF "" "" l))) (h2 : H' l = some (.lst [])) :
    Stk CF CP HB (upd H' F (.lst (refs as ++ [V.ref p]))) F (⟨"", "", []⟩ :: fs) ((p, l) :: as) := by
  have k : Kp F H' (upd H' F (.lst (refs as ++ [V.ref p]))) := kp_upd
  have npF : p ≠ F := fun e => by
    rw [e, S.lst] at hp
    cases hp
  have nlF : l ≠ F := fun e => by
    rw [e, S.lst] at hl
    cases hl
  have new : ∀ d, d ≠ F → H d = none → HB d = none := fun d n hd => by
    cases e : HB d with
    | none => rfl
    | some o =>
      rw [S.same d o n e] at hd
      cases hd
  refine ⟨by rw [upd_same, refs_cons], ⟨(p, l), as, rfl, ⟨dx, [], k _ _ npF h1, k _ _ nlF h2, rfl, Nat.zero_le _⟩, ?_⟩, ?_, ?_, ?_, S.same.trans (s.kp.trans k)⟩
  · exact (S.fsat.same s).kp k (s _ _ S.lst) (fun xs e => by cases e) (fun dx fs e => by cases e) fun b hb => S.nF hF hb
  · refine List.nodup_cons.mpr ⟨fun hm => ?_, S.nd1⟩
    obtain ⟨b, hb, e⟩ := List.mem_map.mp hm
    obtain ⟨⟨dx, ff, q⟩, _⟩ := S.fsat.mem b hb
    rw [e] at q
    rw [show H p = none from hp] at q
    cases q
  · refine List.nodup_cons.mpr ⟨fun hm => ?_, S.nd2⟩
    obtain ⟨b, hb, e⟩ := List.mem_map.mp hm
    obtain ⟨_, us, q⟩ := S.fsat.mem b hb
    rw [e] at q
    rw [show H l = none from hl] at q
    cases q
  · intro b hb
    rcases List.mem_cons.mp hb with e | hb
    · subst e
      exact ⟨new p npF hp, new l nlF hl⟩
    · exact S.new b hb
/-- a part is placed -/
theorem placed_go {CF CP : Addr} {HB H : Hp} {F : Addr} {o : HO} {fs : List FM} {as : List (Addr × Addr)} {x : V} {p : PM} {b : Bool} {st : List FM × Option PM} {Q : VK} {E : XK} (S : Stk CF CP HB H F fs as) (hF : HB F = some o) (hx : PartAt CP H x p) (hst : placedM fs p (wantT b) = some st)
    (q : ∀ (v : V) (H' : Hp), Stk CF CP HB H' F st.1 as → FoundAt CP H' st.2 v → Q v H') : spPlaced CF CP [.ref F, x, .str (wantT b)] H Q E := by
  refine ⟨F, x, b, fs, as, p, st, rfl, S.lst, S.fsat, hx, hst, fun e e2 H' s => ?_, fun a r f fr e e2 e3 H' k h => ?_⟩
  · subst e e2
    exact q x H' (S.same' s) (hx.mono s)
  · subst e e2 e3
    exact q .non H' (S.grow hF k h) rfl
/-- what a step did -/
theorem step_inv {names : List Str} {want y : Str} {fs : List FM} {fnd : Option PM} {st : List FM × Option PM} (h : stepM names want (fs, fnd) y = some st) : fnd = none ∧ ((y = "(" ∧ topOpen fs = true ∧ st = (⟨"", "", []⟩ :: fs, none)) ∨
    (y ≠ "(" ∧ y = ")" ∧ ∃ f fr p fs', fs = f :: fr ∧ closedM (f :: fr) = some (p, fs') ∧ placedM fs' p want = some st) ∨ (y ≠ "(" ∧ y ≠ ")" ∧ topOpen fs = false ∧ ∃ f fr f', fs = f :: fr ∧ headedM f y = some f' ∧ st = (f' :: fr, none)) ∨
    (y ≠ "(" ∧ y ≠ ")" ∧ topOpen fs = true ∧ ∃ p, leafM y fs names = some p ∧ placedM fs p want = some st)) := by
  unfold stepM at h
  cases fnd with
  | some p => cases h
  | none =>
    refine ⟨rfl, ?_⟩
    dsimp only at h
    by_cases c1 : y = "("
    · rw [if_pos c1] at h
      by_cases c2 : topOpen fs = true
      · rw [if_pos c2] at h
        exact .inl ⟨c1, c2, (Option.some.inj h).symm⟩
      · rw [if_neg c2] at h
        cases h
    rw [if_neg c1] at h
    by_cases c2 : y = ")"
    · rw [if_pos c2] at h
      cases e : closedM fs with
      | none =>
        rw [e] at h
        cases h
      | some q =>
        obtain ⟨p, fs'⟩ := q
        rw [e] at h
        cases fs with
        | nil => cases e
        | cons f fr => exact .inr (.inl ⟨c1, c2, f, fr, p, fs', rfl, e, h⟩)
    rw [if_neg c2] at h
    have leaf : topOpen fs = true → (match leafM y fs names with
        | some p => placedM fs p want
        | none => none) = some st → (y ≠ "(" ∧ y ≠ ")" ∧ topOpen fs = true ∧ ∃ p, leafM y fs names = some p ∧ placedM fs p want = some st) := by
      intro ho h
      cases e : leafM y fs names with
      | none =>
        rw [e] at h
        cases h
      | some p =>
        rw [e] at h
        exact ⟨c1, c2, ho, p, rfl, h⟩
    cases fs with
    | nil => exact .inr (.inr (.inr (leaf rfl h)))
    | cons f fr =>
      dsimp only at h
      by_cases c3 : isOpenM f = true
      · rw [if_pos c3] at h
        exact .inr (.inr (.inr (leaf c3 h)))
      · rw [if_neg c3] at h
        cases e : headedM f y with
        | none =>
          rw [e] at h
          cases h
        | some f' =>
          rw [e] at h
          exact .inr (.inr (.inl ⟨c1, c2, Bool.eq_false_iff.mpr c3, f, fr, f', rfl, e, (Option.some.inj h).symm⟩))
/-- the test whether the top form is full -/
theorem top_full {K : PySem.W.Frag} {CF CP : Addr} {HB H : Hp} {F : Addr} {fs : List FM} {as : List (Addr × Addr)} {σ : L2.St} {Q : Bool → Hp → Prop} (hσ : σ[3]? = some (some (V.ref F))) (S : Stk CF CP HB H F fs as) (q : ∀ H', Same H H' → Q (!topOpen fs) H') :
    tAnd (fun σ H Q => tVar 3 σ H fun x H' => ∃ k, TruV K x H' k ∧ Q k H') (tNot (tB (tCall (spIsOpen CF CP) [] E0 (tCons (tOp (rIxL K) (tVar 3) (tUn (rU fun i => .int (-i)) (tC (.int 1)))) tNil)))) σ H Q := by
  cases fs with
  | nil =>
    have ea : as = [] := S.fsat
    subst ea
    exact ⟨_, hσ, false, .inl ⟨_, SqL.of S.lst, rfl⟩, iteF (q H (Same.refl H))⟩
  | cons f fr =>
    obtain ⟨a, r, ea, h1, h2⟩ := S.top
    subst ea
    have hR : refs (a :: r) = refs r ++ [V.ref a.1] := refs_cons _ _
    have hF := S.lst
    refine ⟨_, hσ, true, .inl ⟨_, SqL.of hF, by rw [refs_ne]; rfl⟩, iteT ?_⟩
    rw [hR] at hF
    exact ⟨_, hσ, _, rfl, F, _, _, _, rfl, rfl, SqL.of hF, atI_last _ _, a.1, a.2, f, rfl, h1, fun H' s => ⟨_, rfl, q H' s⟩⟩
/-! ### the promises -/
def spRead (CP : Addr) : Sp := fun vs H Q _ => ∃ (z : Str) (n : Addr) (b : Bool) (names : List Str) (p : PM), vs = [.str z, .ref n, .str (wantT b)] ∧ z.length ≤ 400000 ∧ Lst H n names ∧ runM names (wantT b) (wordsS z) ([], none) = some ([], some p) ∧ ∀ (y : V) (H' : Hp), Same H H' → PartAt CP H' y p → Q y H'
def spReadAs : Sp := fun vs H Q _ => ∃ (z : Str) (n : Addr) (b : Bool) (names : List Str) (p : PM), vs = [.str z, .ref n, .str (wantT b)] ∧ z.length ≤ 400000 ∧ Lst H n names ∧ runM names (wantT b) (wordsS z) ([], none) = some ([], some p) ∧ ∀ (y : V) (H' : Hp), Same H H' → At H' p.t y → Q y H'
def spReadB (b : Bool) : Sp := fun vs H Q _ => ∃ (z : Str) (n : Addr) (names : List Str) (p : PM), vs = [.str z, .ref n] ∧ z.length ≤ 400000 ∧ Lst H n names ∧ runM names (wantT b) (wordsS z) ([], none) = some ([], some p) ∧ ∀ (y : V) (H' : Hp), Same H H' → At H' p.t y → Q y H'
section
variable {P : Program} {w : World} {K : PySem.W.Frag} {mg : Str → Option Value} {base : Heap} {CF CP : Addr}
abbrev n_read_part : List Str := ["text", "names", "want", "forms", "found", "word", "part"]
theorem sc_read_part : FnScope n_read_part ["text", "names", "want"] (defScope s_read_part) := ⟨rfl, rfl, rfl, by decide +kernel, rfl, by decide +kernel, by decide +kernel⟩
theorem ok_read_part (D : Def K mg "read_part" s_read_part ["text", "names", "want"]) (Z : Blt mg) (T : Cl P w K mg base CF CP) (G_words_of : Good P w K mg base 1 "words_of" ["text"] spWords) (G_is_open : Good P w K mg base 2 "is_open" ["form"] (spIsOpen CF CP))
    (G_closed : Good P w K mg base 4 "closed" ["forms"] (spClosed CF CP)) (G_placed_part : Good P w K mg base 2 "placed_part" ["forms", "part", "want"] (spPlaced CF CP)) (G_headed : Good P w K mg base 6 "headed" ["form", "word"] (spHeaded CF CP))
    (G_leaf_part : Good P w K mg base 6 "leaf_part" ["word", "forms", "names"] (spLeaf CF CP)) : Good P w K mg base 7 "read_part" ["text", "names", "want"] (spRead CP) := by
  obtain ⟨fF', fdF, M_Form, GF_Form, b_Form⟩ := T.mkF
  have mg_Form := T.mgF
  refine D.ok sc_read_part (fun vs H Q E h => ?_) (fun cdv A outer s H vs Q E f hr h => ?_)
  · obtain ⟨z, n, b, names, p, rfl, _⟩ := h
    rfl
  obtain ⟨z, n, b, names, pm, rfl, hz, hn, hrun, q⟩ := h
  refine ⟨_, (pss_cons (ps_set (i := 3) sc_read_part.nd rfl (Or.inl rfl) (pe_lst pa_nil))
    (pss_cons (ps_set (i := 4) sc_read_part.nd rfl (Or.inl rfl) pe_non)
    (pss_cons (ps_for PassesOwn.never rfl (pi_list (gcall G_words_of (hr.mono (by omega)) (pa_cons (pv 0) pa_nil))) (pg_name (i := 5) sc_read_part.nd rfl (Or.inl rfl)) (pss_cons (ps_if (pt_cmpR op_notN (pv 4) pe_non (nomark _)) (pss_one ps_never) pss_nil)
      (pss_one (ps_if (pt_cmpR op_eq (pv 5) pe_str (nomark _)) (pss_cons (ps_if (PW.pt (pw_and (pt_truth (pv 3) (by intro _; rfl)) (pw_and1 (pt_not (pt_val (gcall G_is_open (hr.mono (by omega)) (pa_cons (pe_ix ix_list (pv 3) (pe_un un_neg pe_int) (fun _ _ => rfl)) pa_nil))))))) (pss_one ps_never) pss_nil)
        (pss_one (ps_expr (pe_bm PySem.F.plainAttrs_list PySem.F.slot_list_append PySem.F.type_list_append mt_append (pv 3) (pa_cons (pe_make0 M_Form GF_Form (hr.mono (by omega)) (by rfl) mg_Form b_Form .nil pass0) pa_nil))))) (pss_one (ps_if (pt_cmpR op_eq (pv 5) pe_str (nomark _)) (pss_cons (ps_set (i := 6) sc_read_part.nd rfl (Or.inl rfl) (gcall G_closed (hr.mono (by omega)) (pa_cons (pv 3) pa_nil)))
          (pss_one (ps_set (i := 4) sc_read_part.nd rfl (Or.inl rfl) (gcall G_placed_part (hr.mono (by omega)) (pa_cons (pv 3) (pa_cons (pv 6) (pa_cons (pv 2) pa_nil))))))) (pss_one (ps_if (PW.pt (pw_and (pt_truth (pv 3) (by intro _; rfl)) (pw_and1 (pt_not (pt_val (gcall G_is_open (hr.mono (by omega)) (pa_cons (pe_ix ix_list (pv 3) (pe_un un_neg pe_int) (fun _ _ => rfl)) pa_nil))))))) (pss_one (ps_expr (gcall G_headed (hr.mono (by omega)) (pa_cons (pe_ix ix_list (pv 3) (pe_un un_neg pe_int) (fun _ _ => rfl)) (pa_cons (pv 5) pa_nil))))) (pss_one (ps_set (i := 4) sc_read_part.nd rfl (Or.inl rfl) (gcall G_placed_part (hr.mono (by omega)) (pa_cons (pv 3) (pa_cons (gcall G_leaf_part (hr.mono (by omega)) (pa_cons (pv 5) (pa_cons (pv 3) (pa_cons (pv 1) pa_nil)))) (pa_cons (pv 2) pa_nil))))))))))))))
    (pss_cons (ps_if (pt_cmpR op_isN (pv 4) pe_non (nomark _)) (pss_one ps_never) pss_nil)
    (pss_one (ps_ret (pv 4))))))), ?_⟩
  refine ⟨Nat.zero_le _, fun F hF => ?_⟩
  have s0 := same_new hF (.lst [])
  refine ⟨_, rfl, z, rfl, by omega, fun W HB s1 hW hws => ?_⟩
  have hBF : HB F = some (.lst []) := s1 _ _ upd_same
  have nWF : W ≠ F := fun e => by
    rw [e, upd_same] at hW
    cases hW
  have nnF : n ≠ F := fun e => by
    have h2 : H n = some _ := hn
    rw [e, hF] at h2
    cases h2
  have L := words_len z
  refine ⟨W, rfl, ⟨_, SqL.of hws⟩, for_it (walk_list (xs := (wordsS z).map V.str)) (fun i σ H' => ∃ (fs : List FM) (fnd : Option PM) (as : List (Addr × Addr)) (fv : V) (xw xp : Option V), σ = [some (.str z), some (.ref n), some (.str (wantT b)), some (.ref F), some fv, xw, xp] ∧
      runM names (wantT b) ((wordsS z).drop i) (fs, fnd) = some ([], some pm) ∧ Stk CF CP HB H' F fs as ∧ FoundAt CP H' fnd fv ∧ as.length ≤ i) ⟨[], none, [], .non, none, none, rfl, hrun, ⟨hBF, rfl, .nil, .nil, (fun a ha => nomatch ha), Kp.refl _ _⟩, rfl, Nat.le_refl _⟩ ?_ ?_ ?_⟩
  · rintro i σ H1 hi ⟨fs, fnd, as, fv, xw, xp, rfl, _, S, _⟩
    exact SqL.of (S.same _ _ nWF hws)
  · rintro i x σ H1 H2 hi ⟨fs, fnd, as, fv, xw, xp, rfl, r1, S, f1, l1⟩ ⟨rfl, hx⟩
    obtain ⟨y, hy, rfl⟩ : ∃ y, (wordsS z)[i]? = some y ∧ x = V.str y := by
      rw [List.getElem?_map] at hx
      obtain ⟨y, h1, h2⟩ := Option.map_eq_some_iff.mp hx
      exact ⟨y, h1, h2.symm⟩
    have hlt : i < (wordsS z).length := (List.getElem?_eq_some_iff.mp hy).1
    have hyl : y.length ≤ 1000000 := by
      have := L.2 y (List.mem_of_getElem? hy)
      omega
    have ed : (wordsS z).drop i = y :: (wordsS z).drop (i + 1) := by
      rw [List.drop_eq_getElem_cons hlt]
      rw [List.getElem?_eq_getElem hlt] at hy
      rw [Option.some.inj hy]
    rw [ed, runM_cons] at r1
    cases es : stepM names (wantT b) (fs, fnd) y with
    | none =>
      rw [es] at r1
      cases r1
    | some st =>
      rw [es] at r1
      have r2 : runM names (wantT b) ((wordsS z).drop (i + 1)) st = some ([], some pm) := r1
      obtain ⟨e0, hc⟩ := step_inv es
      subst e0
      have e0 : fv = .non := f1
      subst e0
      -- the end of a turn
      have fin : ∀ (v : V) (xp : Option V) (H' : Hp) (as' : List (Addr × Addr)), Stk CF CP HB H' F st.1 as' → FoundAt CP H' st.2 v → as'.length ≤ i + 1 → ∃ (fs : List FM) (fnd : Option PM) (as : List (Addr × Addr)) (fv : V) (xw xp' : Option V),
          [some (.str z), some (.ref n), some (.str (wantT b)), some (.ref F), some v, some (V.str y), xp] = [some (V.str z), some (.ref n), some (.str (wantT b)), some (.ref F), some fv, xw, xp'] ∧ runM names (wantT b) ((wordsS z).drop (i + 1)) (fs, fnd) = some ([], some pm) ∧ Stk CF CP HB H' F fs as ∧
          FoundAt CP H' fnd fv ∧ as.length ≤ i + 1 := fun v xp H' as' S' f' l' => ⟨st.1, st.2, as', v, _, xp, rfl, r2, S', f', l'⟩
      have hnn : ∀ {H' : Hp}, Kp F HB H' → H' n = some (.lst (names.map V.str)) := fun k => k _ _ nnF (s1 _ _ (s0 _ _ hn))
      refine ⟨_, rfl, rfl, _, rfl, iteF ?_⟩
      rcases hc with ⟨c1, c2, c3⟩ | ⟨c1, c2, f, fr, p, fs', c3, c4, c5⟩ | ⟨c1, c2, c3, f, fr, f', c4, c5, c6⟩ | ⟨c1, c2, c3, p, c4, c5⟩
      · refine ⟨_, rfl, rfl, _, rfl, iteTc (decide_eq_true (by rw [c1])) ?_⟩
        dsimp only [tSeq, tIfS]
        refine top_full (K := K) rfl S fun H3 s3 => iteFc (by rw [c2]; rfl) ?_
        have S3 := S.same' s3
        refine ⟨_, rfl, .inl ⟨rfl, _, SqL.of S3.lst⟩, fun x dx hx hdx _ => ⟨x, dx, rfl, upd_same, fun l H4 k4 hl e4 e5 => ⟨rfl, ?_⟩⟩⟩
        have sA : Same H3 (upd (upd H3 dx (.own x)) x (.ins CF dx [])) := fun c u hc => by rw [upd_ne (ne_of_none hc hx), upd_ne (ne_of_none hc hdx)]; exact hc
        have sB : Same H3 H4 := fun c u hc => k4 c u (ne_of_none hc hx) (sA c u hc)
        have hl3 : H3 l = none := by
          cases e : H3 l with
          | none => rfl
          | some u =>
            rw [sA l u e] at hl
            cases hl
        refine ⟨F, _, .ref x, rfl, rfl, sB _ _ S3.lst, smallLt (by rw [refs_len]; omega), ?_⟩
        have S5 := S3.push hBF sB hx hl3 e4 e5
        refine fin .non xp _ ((x, l) :: as) ?_ ?_ (by rw [List.length_cons]; omega)
        · rw [c3]
          exact S5
        · rw [c3]
          rfl
      · refine ⟨_, rfl, rfl, _, rfl, iteFc (decide_eq_false fun e => c1 (V.str.inj e)) ?_⟩
        refine ⟨_, rfl, rfl, _, rfl, iteTc (decide_eq_true (by rw [c2])) ?_⟩
        subst c3
        obtain ⟨a, r, ea, h1, h2⟩ := S.top
        subst ea
        refine ⟨_, rfl, F, f, fr, a, r, p, fs', rfl, S.lst, h1, (S.nF hBF List.mem_cons_self).2, c4, fun y1 H3 e k h3 hy1 => ?_⟩
        subst e
        have S3 := S.drop hBF k h3
        rw [List.length_cons] at l1
        exact ⟨_, rfl, _, rfl, _, rfl, placed_go (E := E0) S3 hBF hy1 c5 fun v H4 S4 f4 => fin v _ H4 r S4 f4 (by omega)⟩
      · refine ⟨_, rfl, rfl, _, rfl, iteFc (decide_eq_false fun e => c1 (V.str.inj e)) ?_⟩
        refine ⟨_, rfl, rfl, _, rfl, iteFc (decide_eq_false fun e => c2 (V.str.inj e)) ?_⟩
        dsimp only [tSeq, tIfS]
        refine top_full (K := K) rfl S fun H3 s3 => iteTc (by rw [c3]; rfl) ?_
        have S3 := S.same' s3
        subst c4
        obtain ⟨a, r, ea, h1, h2⟩ := S3.top
        subst ea
        have hF3 := S3.lst
        rw [refs_cons] at hF3
        refine ⟨_, rfl, _, rfl, F, _, _, _, rfl, rfl, SqL.of hF3, atI_last _ _, _, rfl, a.1, a.2, f, f', y, rfl, h1, hyl, c5, fun H4 k4 h4 => ?_⟩
        refine fin .non xp _ (a :: r) ?_ ?_ (by omega)
        · rw [c6]
          exact S3.name hBF T.ne k4 h4
        · rw [c6]
          rfl
      · refine ⟨_, rfl, rfl, _, rfl, iteFc (decide_eq_false fun e => c1 (V.str.inj e)) ?_⟩
        refine ⟨_, rfl, rfl, _, rfl, iteFc (decide_eq_false fun e => c2 (V.str.inj e)) ?_⟩
        dsimp only [tSeq, tIfS]
        refine top_full (K := K) rfl S fun H3 s3 => iteFc (by rw [c3]; rfl) ?_
        have S3 := S.same' s3
        refine ⟨_, rfl, _, rfl, _, rfl, _, rfl, y, F, n, fs, as, names, p, rfl, S3.lst, S3.fsat, hnn S3.same, hyl, c4, fun y1 H4 s4 hy1 => ?_⟩
        exact ⟨_, rfl, placed_go (E := E0) (S3.same' s4) hBF hy1 c5 fun v H5 S5 f5 => fin v _ H5 as S5 f5 (by omega)⟩
  · rintro σ H1 ⟨fs, fnd, as, fv, xw, xp, rfl, r1, S, f1, l1⟩
    rw [List.length_map, List.drop_length] at r1
    have e1 := Option.some.inj r1
    injection e1 with e1 e2
    subst e1 e2
    have f2 : PartAt CP H1 fv pm := f1
    obtain ⟨a, dx, v, rfl, h1, h2⟩ := id f2
    refine ⟨_, rfl, rfl, _, rfl, iteF ⟨_, rfl, q _ _ (fun c u hc => ?_) f2⟩⟩
    have ncF : c ≠ F := ne_of_none hc hF
    exact S.same _ _ ncF (s1 _ _ (s0 _ _ hc))
abbrev n_read_as : List Str := ["text", "names", "want", "part"]
theorem sc_read_as : FnScope n_read_as ["text", "names", "want"] (defScope s_read_as) := ⟨rfl, rfl, rfl, by decide +kernel, rfl, by decide +kernel, by decide +kernel⟩
theorem ok_read_as (D : Def K mg "read_as" s_read_as ["text", "names", "want"]) (Z : Blt mg) (T : Cl P w K mg base CF CP) (G_read_part : Good P w K mg base 7 "read_part" ["text", "names", "want"] (spRead CP)) : Good P w K mg base 8 "read_as" ["text", "names", "want"] spReadAs := by
  refine D.ok sc_read_as (fun vs H Q E h => ?_) (fun cdv A outer s H vs Q E f hr h => ?_)
  · obtain ⟨z, n, b, names, p, rfl, _⟩ := h
    rfl
  obtain ⟨z, n, b, names, pm, rfl, hz, hn, hrun, q⟩ := h
  refine ⟨_, (pss_cons (ps_set (i := 3) sc_read_as.nd rfl (Or.inl rfl) (gcall G_read_part (hr.mono (by omega)) (pa_cons (pv 0) (pa_cons (pv 1) (pa_cons (pv 2) pa_nil)))))
    (pss_cons (ps_if (pt_cmpR op_isN (pe_fld (pv 3) rfl) pe_non (nomark _)) (pss_one ps_never) pss_nil)
    (pss_one (ps_ret (pe_fld (pv 3) rfl))))), ?_⟩
  refine ⟨_, rfl, _, rfl, _, rfl, z, n, b, names, pm, rfl, hz, hn, hrun, fun y H1 s1 hy => ?_⟩
  obtain ⟨a, dx, v, rfl, h1, h2⟩ := id hy
  obtain ⟨a', xs, rfl, h3⟩ := h2.tup
  refine ⟨_, rfl, a, CP, dx, _, _, rfl, h1, T.clP, T.nPt, pF_thing _ _ _ _, rfl, _, rfl, iteF ?_⟩
  exact ⟨_, rfl, a, CP, dx, _, _, rfl, h1, T.clP, T.nPt, pF_thing _ _ _ _, q _ _ s1 h2⟩
abbrev n_read_term : List Str := ["text", "names"]
theorem sc_read_term : FnScope n_read_term ["text", "names"] (defScope s_read_term) := ⟨rfl, rfl, rfl, by decide +kernel, rfl, by decide +kernel, by decide +kernel⟩
theorem ok_read_term (D : Def K mg "read_term" s_read_term ["text", "names"]) (G_read_as : Good P w K mg base 8 "read_as" ["text", "names", "want"] spReadAs) : Good P w K mg base 9 "read_term" ["text", "names"] (spReadB false) := by
  refine D.ok sc_read_term (fun vs H Q E h => ?_) (fun cdv A outer s H vs Q E f hr h => ?_)
  · obtain ⟨z, n, names, p, rfl, _⟩ := h
    rfl
  obtain ⟨z, n, names, pm, rfl, hz, hn, hrun, q⟩ := h
  refine ⟨_, (pss_one (ps_ret (gcall G_read_as (hr.mono (by omega)) (pa_cons (pv 0) (pa_cons (pv 1) (pa_cons pe_str pa_nil)))))), ?_⟩
  exact ⟨_, rfl, _, rfl, z, n, false, names, pm, rfl, hz, hn, hrun, q⟩
abbrev n_read_kind : List Str := ["text", "names"]
theorem sc_read_kind : FnScope n_read_kind ["text", "names"] (defScope s_read_kind) := ⟨rfl, rfl, rfl, by decide +kernel, rfl, by decide +kernel, by decide +kernel⟩
theorem ok_read_kind (D : Def K mg "read_kind" s_read_kind ["text", "names"]) (G_read_as : Good P w K mg base 8 "read_as" ["text", "names", "want"] spReadAs) : Good P w K mg base 9 "read_kind" ["text", "names"] (spReadB true) := by
  refine D.ok sc_read_kind (fun vs H Q E h => ?_) (fun cdv A outer s H vs Q E f hr h => ?_)
  · obtain ⟨z, n, names, p, rfl, _⟩ := h
    rfl
  obtain ⟨z, n, names, pm, rfl, hz, hn, hrun, q⟩ := h
  refine ⟨_, (pss_one (ps_ret (gcall G_read_as (hr.mono (by omega)) (pa_cons (pv 0) (pa_cons (pv 1) (pa_cons pe_str pa_nil)))))), ?_⟩
  exact ⟨_, rfl, _, rfl, z, n, true, names, pm, rfl, hz, hn, hrun, q⟩
end
end KP
set_option Elab.async false
set_option linter.all false
set_option maxRecDepth 100000
set_option maxHeartbeats 4000000
/-! KpLaw1: what is shown is read: the whole, plain Lean; the law's own measures. -/
namespace KP
open PySem PySem.Spec PyProof.Rows L2
structure OkT (b : Bool) (t : T) (names : List Str) : Prop where
  w : wf b t
  bl : below t names.length
  sm : small t
  kn : knots t ≤ 600
  dp : depth t ≤ 40
  sc : Sc names (told t []) (depth t)
theorem OkT.reads {b : Bool} {t : T} {names : List Str} (h : OkT b t names) : runM names (wantT b) (wordsS (sh (told t []) t names)) ([], none) = some ([], some (pmOf t)) := by
  rw [words_tok (tok_t _ t b names h.w h.sc h.bl h.dp)]
  exact run_t names (told t []) (wantT b) t b [] h.w ⟨rfl, wantT_c b⟩ h.sc h.bl h.sm h.kn h.dp fun w hw => (told_mem t [] w).mpr (.inl hw)
theorem OkT.len {b : Bool} {t : T} {names : List Str} (h : OkT b t names) : (sh (told t []) t names).length ≤ 400000 := by
  have := len_t (told t []) t b names h.w h.sc h.bl h.dp
  have := h.kn
  omega
/-! ### the data -/
theorem all16_ok : ∀ w ∈ all16, PyData.strOk w = true := by decide +kernel
theorem letters_ok : ∀ c ∈ TL.tl letters, decide (c < 0x110000) = true := by decide +kernel
theorem name_ok {w : Str} (h : nameS w = true) : PyData.strOk w = true := by
  unfold nameS at h
  simp only [Bool.and_eq_true, List.all_eq_true, decide_eq_true_eq] at h
  unfold PyData.strOk
  rw [Array.all_eq_true_iff_forall_mem]
  intro c hc
  exact letters_ok c (h.2.2.1 c (Array.mem_toList_iff.mpr hc))
mutual
theorem pd_lay : ∀ (t : T) (b : Bool), wf b t → (pd t).canLay0 = true
  | .v k, b, h => by unfold pd; simp only [PyData.canLay0, PyData.canLayAll0, Bool.and_true]; decide +kernel
  | .nm z, b, h => by
    unfold wf at h
    unfold pd
    simp only [PyData.canLay0, PyData.canLayAll0, Bool.and_true]
    rw [name_ok h.2]
    decide +kernel
  | .nd z ks, b, h => by
    unfold wf at h
    obtain ⟨h1, l, hl, hk⟩ := h
    unfold pd
    simp only [PyData.canLay0, PyData.canLayAll0]
    rw [all16_ok z (shapeL_mem hl), pdL_lay ks l hk]
    rfl
theorem pdL_lay : ∀ (ks : List T) (l : List Bool), wfL l ks → PyData.canLayAll0 (pdL ks) = true
  | [], l, _ => by unfold pdL; simp only [PyData.canLayAll0]
  | k :: ks, [], h => by simp [wfL] at h
  | k :: ks, b :: l, h => by
    simp only [wfL] at h
    unfold pdL
    simp only [PyData.canLayAll0, Bool.and_eq_true]
    exact ⟨pd_lay k b h.1, pdL_lay ks l h.2⟩
end
mutual
theorem pd_depth : ∀ t : T, (pd t).depth ≤ depth t
  | .v k => by unfold pd depth; simp [PyData.depth, PyData.depthAll]
  | .nm z => by unfold pd depth; simp [PyData.depth, PyData.depthAll]
  | .nd z ks => by
    unfold pd depth
    simp only [PyData.depth, PyData.depthAll]
    have := pdL_depth ks
    omega
theorem pdL_depth : ∀ ks : List T, PyData.depthAll (pdL ks) ≤ depthL ks
  | [] => by unfold pdL; simp [PyData.depthAll]
  | k :: ks => by
    unfold pdL depthL
    simp only [PyData.depthAll]
    have h1 := pd_depth k
    have h2 := pdL_depth ks
    omega
end
theorem pd_shaped {b : Bool} {t : T} (w : wf b t) (h : depth t ≤ 64) : SeqAt.shaped (pd t) = true := by
  unfold SeqAt.shaped
  rw [pd_lay t b w, decide_eq_true (Nat.le_trans (pd_depth t) h)]
  rfl
theorem eq_same {K : PySem.W.Frag} {H : Hp} {x y : V} {b : Bool} {t : T} {Q : VK} (w : wf b t) (h : depth t ≤ 64) (hx : At H t x) (hy : At H t y) (q : Q (.bl true) H) : rEqD K x y H Q := by
  refine ⟨pd t, pd t, hx.dp, hy.dp, pd_shaped w h, pd_shaped w h, ?_⟩
  rw [SeqAt.eqv_refl _ (pd_lay t b w)]
  exact q
theorem ne_same {K : PySem.W.Frag} {H : Hp} {x y : V} {b : Bool} {t : T} {Q : VK} (w : wf b t) (h : depth t ≤ 64) (hx : At H t x) (hy : At H t y) (q : Q (.bl false) H) : rNeD K x y H Q := by
  refine ⟨pd t, pd t, hx.dp, hy.dp, pd_shaped w h, pd_shaped w h, ?_⟩
  rw [SeqAt.eqv_refl _ (pd_lay t b w)]
  exact q
/-! ### the greatest number from without -/
def bdI (w : Str) (i : Nat) : Nat := if i = bpN w then 1 else 0
mutual
def gr : T → Nat → Int
  | .v k, o => (k : Int) - (o : Int)
  | .nm _, _ => -1
  | .nd w ks, o => grL w ks 0 o
def grL : Str → List T → Nat → Nat → Int
  | _, [], _, _ => -1
  | w, k :: ks, i, o => max (gr k (o + bdI w i)) (grL w ks (i + 1) o)
end
mutual
theorem gr_below : ∀ (t : T) (o m n : Nat), gr t o < (m : Int) → n = m + o → below t n
  | .v k, o, m, n, h, e => by
    unfold gr at h
    unfold below
    omega
  | .nm _, o, m, n, h, e => by unfold below; trivial
  | .nd w ks, o, m, n, h, e => by
    unfold gr at h
    unfold below
    exact grL_below w ks 0 o m n h e
theorem grL_below : ∀ (w : Str) (ks : List T) (i o m n : Nat), grL w ks i o < (m : Int) → n = m + o → belowL ks i (bpN w) n
  | w, [], i, o, m, n, h, e => by unfold belowL; trivial
  | w, k :: ks, i, o, m, n, h, e => by
    unfold grL at h
    unfold belowL
    refine ⟨?_, grL_below w ks (i + 1) o m n (by omega) e⟩
    have q := gr_below k (o + bdI w i) m
    unfold bdI at q h
    by_cases c : i = bpN w
    · rw [if_pos c] at q h ⊢
      exact q (n + 1) (by omega) (by omega)
    · rw [if_neg c] at q h ⊢
      exact q n (by omega) (by omega)
end
mutual
theorem gr_mono : ∀ (t : T) (o o' : Nat), o ≤ o' → gr t o' ≤ gr t o
  | .v k, o, o', h => by unfold gr; omega
  | .nm _, o, o', h => by unfold gr; omega
  | .nd w ks, o, o', h => by unfold gr; exact grL_mono w ks 0 o o' h
theorem grL_mono : ∀ (w : Str) (ks : List T) (i o o' : Nat), o ≤ o' → grL w ks i o' ≤ grL w ks i o
  | w, [], i, o, o', h => by unfold grL; omega
  | w, k :: ks, i, o, o', h => by
    unfold grL
    have h1 := gr_mono k (o + bdI w i) (o' + bdI w i) (by omega)
    have h2 := grL_mono w ks (i + 1) o o' h
    omega
end
theorem grL_ge (w : Str) : ∀ (ks : List T) (i o : Nat), -1 ≤ grL w ks i o
  | [], i, o => by unfold grL; omega
  | k :: ks, i, o => by
    unfold grL
    have := grL_ge w ks (i + 1) o
    omega
end KP
set_option Elab.async false
set_option linter.all false
set_option maxRecDepth 100000
set_option maxHeartbeats 4000000
/-! KpLaw2: the law's measures of a thing. -/
namespace KP
open PySem PySem.Spec PyProof.Rows L2
/-- what stands behind the head: things, or one that is none -/
def restT : T → List (Option T)
  | .v _ => [none]
  | .nm _ => [none]
  | .nd _ ks => ks.map some
def ItAt (H : Hp) (x : V) : Option T → Prop
  | some k => At H k x
  | none => (∃ i : Int, x = .int i) ∨ ∃ z : Str, x = .str z
structure Rst (H : Hp) (t : T) (xs : List V) : Prop where
  len : xs.length = (restT t).length
  at_ : ∀ (i : Nat) (x : V), xs[i]? = some x → ∃ o : Option T, (restT t)[i]? = some o ∧ ItAt H x o
theorem At.rst {H : Hp} {t : T} {x : V} (h : At H t x) : ∃ a xs, x = .ref a ∧ H a = some (.tup (.str (hdW t) :: xs)) ∧ Rst H t xs := by
  cases t with
  | v k =>
    obtain ⟨a, e, h1⟩ := h.var
    refine ⟨a, _, e, h1, rfl, fun i x hi => ?_⟩
    match i, hi with
    | 0, hi =>
      have e : V.int (k : Int) = x := Option.some.inj hi
      exact ⟨none, rfl, .inl ⟨_, e.symm⟩⟩
  | nm z =>
    obtain ⟨a, e, h1⟩ := h.nam
    refine ⟨a, _, e, h1, rfl, fun i x hi => ?_⟩
    match i, hi with
    | 0, hi =>
      have e : V.str z = x := Option.some.inj hi
      exact ⟨none, rfl, .inr ⟨_, e.symm⟩⟩
  | nd z ks =>
    obtain ⟨a, vs, e, h1, h2⟩ := h.nod
    refine ⟨a, vs, e, h1, by rw [h2.length]; show _ = (ks.map some).length; rw [List.length_map], fun i x hi => ?_⟩
    obtain ⟨k, hk, hk2, _⟩ := h2.get hi
    exact ⟨some k, by show (ks.map some)[i]? = _; rw [List.getElem?_map, hk]; rfl, hk2⟩
theorem Rst.mono {H H' : Hp} {t : T} {xs : List V} (s : Tk H H') (h : Rst H t xs) : Rst H' t xs := by
  refine ⟨h.len, fun i x hi => ?_⟩
  obtain ⟨o, h1, h2⟩ := h.at_ i x hi
  refine ⟨o, h1, ?_⟩
  cases o with
  | none => exact h2
  | some k => exact At.mono s h2
/-- the measure of the rest from i on -/
theorem drop_rest {l : List (Option T)} {i : Nat} {o : Option T} (h : l[i]? = some o) : l.drop i = o :: l.drop (i + 1) := by
  obtain ⟨hlt, e⟩ := List.getElem?_eq_some_iff.mp h
  rw [List.drop_eq_getElem_cons hlt, e]
def sumO : List (Option T) → Nat
  | [] => 0
  | none :: l => sumO l
  | some k :: l => knots k + sumO l
def maxO : List (Option T) → Nat
  | [] => 0
  | none :: l => maxO l
  | some k :: l => max (depth k) (maxO l)
def kepO : List (Option T) → List Str
  | [] => []
  | none :: l => kepO l
  | some k :: l => keptN k ++ kepO l
theorem sumO_map : ∀ ks : List T, sumO (ks.map some) = knotsL ks
  | [] => rfl
  | k :: ks => by
    show knots k + sumO (ks.map some) = knots k + knotsL ks
    rw [sumO_map ks]
theorem maxO_map : ∀ ks : List T, maxO (ks.map some) = depthL ks
  | [] => rfl
  | k :: ks => by
    show max (depth k) (maxO (ks.map some)) = max (depth k) (depthL ks)
    rw [maxO_map ks]
theorem kepO_map : ∀ ks : List T, kepO (ks.map some) = keptL ks
  | [] => rfl
  | k :: ks => by
    show keptN k ++ kepO (ks.map some) = keptN k ++ keptL ks
    rw [kepO_map ks]
theorem knots_rest (t : T) : knots t = 1 + sumO (restT t) := by
  cases t with
  | v k => rfl
  | nm z => rfl
  | nd z ks =>
    show 1 + knotsL ks = 1 + sumO (ks.map some)
    rw [sumO_map]
theorem depth_rest (t : T) : depth t = 1 + maxO (restT t) := by
  cases t with
  | v k => rfl
  | nm z => rfl
  | nd z ks =>
    show 1 + depthL ks = 1 + maxO (ks.map some)
    rw [maxO_map]
theorem depth_mem {l : List (Option T)} {i : Nat} {k : T} (h : l[i]? = some (some k)) : depth k ≤ maxO l := by
  induction l generalizing i with
  | nil => simp at h
  | cons o l ih =>
    cases i with
    | zero =>
      have e : o = some k := by simpa using h
      subst e
      show depth k ≤ max (depth k) (maxO l)
      omega
    | succ i =>
      have q := ih (i := i) (by simpa using h)
      cases o with
      | none => exact q
      | some j =>
        show depth k ≤ max (depth j) (maxO l)
        omega
mutual
theorem kept_len : ∀ t : T, (keptN t).length ≤ knots t
  | .v _ => Nat.zero_le _
  | .nm _ => Nat.le_refl _
  | .nd _ ks => by
    show (keptL ks).length ≤ 1 + knotsL ks
    have := keptL_len ks
    omega
theorem keptL_len : ∀ ks : List T, (keptL ks).length ≤ knotsL ks
  | [] => Nat.le_refl _
  | k :: ks => by
    show (keptN k ++ keptL ks).length ≤ knots k + knotsL ks
    rw [List.length_append]
    have h1 := kept_len k
    have h2 := keptL_len ks
    omega
end
/-! ### the promises -/
def spKnotsL (n : Nat) : Sp := fun vs H Q _ => ∃ (t : T) (x : V), vs = [x] ∧ At H t x ∧ depth t ≤ n ∧ ∀ H', Same H H' → Q (.int (knots t : Int)) H'
def spDeepL (n : Nat) : Sp := fun vs H Q _ => ∃ (t : T) (x : V), vs = [x] ∧ At H t x ∧ depth t ≤ n ∧ ∀ H', Same H H' → Q (.int (depth t : Int)) H'
def spKeptL (n : Nat) : Sp := fun vs H Q _ => ∃ (t : T) (x : V) (b : Bool) (d : Addr) (f : List Str), vs = [x, .ref d] ∧ At H t x ∧ wf b t ∧ depth t ≤ n ∧ Lst H d f ∧ f.length + knots t ≤ 100000 ∧ ∀ H', Kp d H H' → Lst H' d (f ++ keptN t) → Q (.ref d) H'
section
variable {P : Program} {w : World} {K : PySem.W.Frag} {mg : Str → Option Value} {base : Heap}
abbrev n_law_knots : List Str := ["_law_thing_here", "_law_many", "_law_part"]
theorem sc_law_knots : FnScope n_law_knots ["_law_thing_here"] (defScope s_law_knots) := ⟨rfl, rfl, rfl, by decide +kernel, rfl, by decide +kernel, by decide +kernel⟩
theorem ok_law_knots (D : Def K mg "_law_knots" s_law_knots ["_law_thing_here"]) (Z : Blt mg) : ∀ n : Nat, Good P w K mg base (n + 1) "_law_knots" ["_law_thing_here"] (spKnotsL n)
  | 0 => Good.none D fun vs H Q E h => by
    obtain ⟨t, x, _, _, h0, _⟩ := h
    have := depth_rest t
    omega
  | n + 1 => by
    have G_law_knots := ok_law_knots D Z n
    refine D.ok sc_law_knots (fun vs H Q E h => ?_) (fun cdv A outer s H vs Q E f hr h => ?_)
    · obtain ⟨t, x, rfl, _⟩ := h
      rfl
    obtain ⟨t, x, rfl, hx, hn, q⟩ := h
    obtain ⟨a, xs, rfl, ha, hi⟩ := hx.rst
    refine ⟨_, (pss_cons (ps_set (i := 1) sc_law_knots.nd rfl (Or.inl rfl) pe_int)
    (pss_cons (ps_for PassesOwn.never rfl (pi_tup (pe_slice sl_tup (pv 0) (po_some pe_int) po_none)) (pg_name (i := 2) sc_law_knots.nd rfl (Or.inl rfl)) (pss_one (ps_if (pt_val (pe_callB call_isi (by rfl) Z.isinstance (by decide +kernel) (pa_cons (pv 2) (pa_cons (pe_bltn (v := .ty "tuple") (by rfl) Z.tuple (by decide +kernel) rfl) pa_nil)))) (pss_one (ps_set (i := 1) sc_law_knots.nd rfl (Or.inl rfl) (pe_op op_add (pv 1) (gcall G_law_knots (hr.mono (by omega)) (pa_cons (pv 2) pa_nil))))) pss_nil)))
    (pss_one (ps_ret (pv 1))))), ?_⟩
    refine ⟨_, rfl, 1, rfl, a, _, rfl, SqT.of ha, cut1_ok _ _, fun p hp => ?_⟩
    rw [cut1]
    have s1 : Same H (upd H p (.tup xs)) := same_new hp _
    refine ⟨p, rfl, ⟨_, SqT.of upd_same⟩, for_it (walk_tup (xs := xs)) (fun i σ H' => ∃ (m : Nat) (x2 : Option V), σ = [some (V.ref a), some (.int (m : Int)), x2] ∧ Same (upd H p (.tup xs)) H' ∧ m + sumO ((restT t).drop i) = knots t) ⟨1, none, rfl, Same.refl _, by rw [List.drop_zero]; exact (knots_rest t).symm⟩ ?_ ?_ ?_⟩
    · rintro i σ H1 _ ⟨m, x2, rfl, s2, _⟩
      exact SqT.of (s2 _ _ upd_same)
    · rintro i y σ H1 H2 _ ⟨m, x2, rfl, s2, g2⟩ ⟨rfl, hy⟩
      have S := s1.trans s2
      obtain ⟨o, ho, hat⟩ := hi.at_ i y hy
      rw [drop_rest ho] at g2
      cases o with
      | none =>
        rcases hat with ⟨j, rfl⟩ | ⟨z, rfl⟩
        · exact ⟨_, rfl, _, _, _, _, false, rfl, .ty "tuple", .base (.int _), kit_ty (by decide +kernel), _, rfl, iteF ⟨m, _, rfl, s2, g2⟩⟩
        · exact ⟨_, rfl, _, _, _, _, false, rfl, .ty "tuple", .base (.str _), kit_ty (by decide +kernel), _, rfl, iteF ⟨m, _, rfl, s2, g2⟩⟩
      | some k =>
        have hat' : At H2 k y := At.mono S.tk hat
        obtain ⟨b, ys, rfl, hb⟩ := hat'.tup
        have hd := depth_mem ho
        have hr0 := depth_rest t
        refine ⟨_, rfl, _, _, _, _, true, rfl, .ty "tuple", .base (.tup hb), kit_ty (by decide +kernel), _, rfl, iteT ⟨_, rfl, _, rfl, k, _, rfl, hat', by omega, fun H3 s3 => ⟨_, _, rfl, rfl, m + knots k, _, rfl, s2.trans s3, ?_⟩⟩⟩
        have e : sumO (some k :: (restT t).drop (i + 1)) = knots k + sumO ((restT t).drop (i + 1)) := rfl
        omega
    · rintro σ H1 ⟨m, x2, rfl, s2, g2⟩
      rw [hi.len, List.drop_length] at g2
      have e : m = knots t := g2
      subst e
      exact ⟨_, rfl, q _ (s1.trans s2)⟩
abbrev n_law_deep : List Str := ["_law_thing_here", "_law_deep_here", "_law_part"]
theorem sc_law_deep : FnScope n_law_deep ["_law_thing_here"] (defScope s_law_deep) := ⟨rfl, rfl, rfl, by decide +kernel, rfl, by decide +kernel, by decide +kernel⟩
theorem ok_law_deep (D : Def K mg "_law_deep" s_law_deep ["_law_thing_here"]) (Z : Blt mg) : ∀ n : Nat, Good P w K mg base (n + 1) "_law_deep" ["_law_thing_here"] (spDeepL n)
  | 0 => Good.none D fun vs H Q E h => by
    obtain ⟨t, x, _, _, h0, _⟩ := h
    have := depth_rest t
    omega
  | n + 1 => by
    have G_law_deep := ok_law_deep D Z n
    refine D.ok sc_law_deep (fun vs H Q E h => ?_) (fun cdv A outer s H vs Q E f hr h => ?_)
    · obtain ⟨t, x, rfl, _⟩ := h
      rfl
    obtain ⟨t, x, rfl, hx, hn, q⟩ := h
    obtain ⟨a, xs, rfl, ha, hi⟩ := hx.rst
    refine ⟨_, (pss_cons (ps_set (i := 1) sc_law_deep.nd rfl (Or.inl rfl) pe_int)
    (pss_cons (ps_for PassesOwn.never rfl (pi_tup (pe_slice sl_tup (pv 0) (po_some pe_int) po_none)) (pg_name (i := 2) sc_law_deep.nd rfl (Or.inl rfl)) (pss_one (ps_if (pt_val (pe_callB call_isi (by rfl) Z.isinstance (by decide +kernel) (pa_cons (pv 2) (pa_cons (pe_bltn (v := .ty "tuple") (by rfl) Z.tuple (by decide +kernel) rfl) pa_nil)))) (pss_one (ps_set (i := 1) sc_law_deep.nd rfl (Or.inl rfl) (pe_callB (call_max2 rfl) (by rfl) Z.max (by decide +kernel) (pa_cons (pv 1) (pa_cons (gcall G_law_deep (hr.mono (by omega)) (pa_cons (pv 2) pa_nil)) pa_nil))))) pss_nil)))
    (pss_one (ps_ret (pe_op op_add (pv 1) pe_int))))), ?_⟩
    refine ⟨_, rfl, 1, rfl, a, _, rfl, SqT.of ha, cut1_ok _ _, fun p hp => ?_⟩
    rw [cut1]
    have s1 : Same H (upd H p (.tup xs)) := same_new hp _
    refine ⟨p, rfl, ⟨_, SqT.of upd_same⟩, for_it (walk_tup (xs := xs)) (fun i σ H' => ∃ (m : Nat) (x2 : Option V), σ = [some (V.ref a), some (.int (m : Int)), x2] ∧ Same (upd H p (.tup xs)) H' ∧ max m (maxO ((restT t).drop i)) + 1 = depth t) ⟨0, none, rfl, Same.refl _, by rw [List.drop_zero, depth_rest t]; omega⟩ ?_ ?_ ?_⟩
    · rintro i σ H1 _ ⟨m, x2, rfl, s2, _⟩
      exact SqT.of (s2 _ _ upd_same)
    · rintro i y σ H1 H2 _ ⟨m, x2, rfl, s2, g2⟩ ⟨rfl, hy⟩
      have S := s1.trans s2
      obtain ⟨o, ho, hat⟩ := hi.at_ i y hy
      rw [drop_rest ho] at g2
      cases o with
      | none =>
        rcases hat with ⟨j, rfl⟩ | ⟨z, rfl⟩
        · exact ⟨_, rfl, _, _, _, _, false, rfl, .ty "tuple", .base (.int _), kit_ty (by decide +kernel), _, rfl, iteF ⟨m, _, rfl, s2, g2⟩⟩
        · exact ⟨_, rfl, _, _, _, _, false, rfl, .ty "tuple", .base (.str _), kit_ty (by decide +kernel), _, rfl, iteF ⟨m, _, rfl, s2, g2⟩⟩
      | some k =>
        have hat' : At H2 k y := At.mono S.tk hat
        obtain ⟨b, ys, rfl, hb⟩ := hat'.tup
        have hd := depth_mem ho
        have hr0 := depth_rest t
        refine ⟨_, rfl, _, _, _, _, true, rfl, .ty "tuple", .base (.tup hb), kit_ty (by decide +kernel), _, rfl, iteT ⟨_, rfl, _, rfl, k, _, rfl, hat', by omega, fun H3 s3 => ⟨_, _, rfl, max m (depth k), some (V.ref b), ?_, s2.trans s3, ?_⟩⟩⟩
        · have e : (if (depth k : Int) > (m : Int) then (depth k : Int) else (m : Int)) = ((max m (depth k) : Nat) : Int) := by
            split <;> omega
          rw [e]
          rfl
        · have e : maxO (some k :: (restT t).drop (i + 1)) = max (depth k) (maxO ((restT t).drop (i + 1))) := rfl
          omega
    · rintro σ H1 ⟨m, x2, rfl, s2, g2⟩
      rw [hi.len, List.drop_length] at g2
      have e : max m 0 + 1 = depth t := g2
      have e2 : (m : Int) + 1 = (depth t : Int) := by omega
      refine ⟨_, rfl, _, _, rfl, rfl, ?_⟩
      show Q (.int ((m : Int) + 1)) H1
      rw [e2]
      exact q _ (s1.trans s2)
abbrev n_law_kept : List Str := ["_law_thing_here", "_law_found", "_law_part"]
theorem sc_law_kept : FnScope n_law_kept ["_law_thing_here", "_law_found"] (defScope s_law_kept) := ⟨rfl, rfl, rfl, by decide +kernel, rfl, by decide +kernel, by decide +kernel⟩
theorem ok_law_kept (D : Def K mg "_law_kept" s_law_kept ["_law_thing_here", "_law_found"]) (Z : Blt mg) : ∀ n : Nat, Good P w K mg base (n + 1) "_law_kept" ["_law_thing_here", "_law_found"] (spKeptL n)
  | 0 => Good.none D fun vs H Q E h => by
    obtain ⟨t, x, b, d, f, _, _, _, h0, _⟩ := h
    have := depth_rest t
    omega
  | n + 1 => by
    have G_law_kept := ok_law_kept D Z n
    refine D.ok sc_law_kept (fun vs H Q E h => ?_) (fun cdv A outer s H vs Q E f hr h => ?_)
    · obtain ⟨t, x, b, d, f, rfl, _⟩ := h
      rfl
    obtain ⟨t, x, b, d, g, rfl, hx, hw, hn, hd, hk, q⟩ := h
    obtain ⟨a, xs, rfl, ha, hi⟩ := hx.rst
    have hdo : H d = some (.lst (g.map V.str)) := hd
    have nad : a ≠ d := ne_of (ha) hdo (by intro z; cases z)
    refine ⟨_, (pss_cons (ps_if (pt_cmpR op_eq (pe_ix ix_tup (pv 0) pe_int (fun _ _ => rfl)) pe_str (nomark _)) (pss_one (ps_expr (pe_bm PySem.F.plainAttrs_list PySem.F.slot_list_append PySem.F.type_list_append mt_append (pv 1) (pa_cons (pe_ix ix_tup (pv 0) pe_int (fun _ _ => rfl)) pa_nil)))) pss_nil)
    (pss_cons (ps_for PassesOwn.never rfl (pi_tup (pe_slice sl_tup (pv 0) (po_some pe_int) po_none)) (pg_name (i := 2) sc_law_kept.nd rfl (Or.inl rfl)) (pss_one (ps_if (pt_val (pe_callB call_isi (by rfl) Z.isinstance (by decide +kernel) (pa_cons (pv 2) (pa_cons (pe_bltn (v := .ty "tuple") (by rfl) Z.tuple (by decide +kernel) rfl) pa_nil)))) (pss_one (ps_expr (gcall G_law_kept (hr.mono (by omega)) (pa_cons (pv 2) (pa_cons (pv 1) pa_nil))))) pss_nil)))
    (pss_one (ps_ret (pv 1))))), ?_⟩
    by_cases c : hdW t = "name"
    · have ht : ∃ z, t = .nm z := by
        cases t with
        | v k => exact absurd (show ("var" : Str) = "name" from c) (by decide +kernel)
        | nm z => exact ⟨z, rfl⟩
        | nd z ks => exact absurd c (nodeOk_of hw).2
      obtain ⟨z, rfl⟩ := ht
      obtain ⟨a', e, ha'⟩ := hx.nam
      cases e
      refine hd_eq (i := 0) rfl ha ⟨_, rfl, iteTc rfl ?_⟩
      refine ⟨_, rfl, .inl ⟨rfl, _, SqL.of hdo⟩, _, rfl, a, _, _, _, rfl, rfl, SqT.of ha', at1, d, _, _, rfl, rfl, hdo, smallLt (by rw [List.length_map]; omega), ?_⟩
      have e1 : upd H d (.lst (g.map V.str ++ [V.str z])) d = some (.lst ((g ++ [z]).map V.str)) := by
        rw [upd_same, List.map_append]
        rfl
      have k1 : Kp d H (upd H d (.lst (g.map V.str ++ [V.str z]))) := kp_upd
      refine ⟨_, rfl, 1, rfl, a, _, rfl, SqT.of (k1 _ _ nad ha'), cut1_ok _ _, fun p hp => ?_⟩
      rw [cut1]
      have s1 := same_new hp (.tup [V.str z])
      refine ⟨p, rfl, ⟨_, SqT.of upd_same⟩, for_it (walk_tup (xs := [V.str z])) (fun i σ H' => H' = upd (upd H d (.lst (g.map V.str ++ [V.str z]))) p (.tup [V.str z]) ∧ ∃ x2 : Option V, σ = [some (V.ref a), some (V.ref d), x2]) ⟨rfl, none, rfl⟩ ?_ ?_ ?_⟩
      · rintro i σ H1 _ ⟨rfl, _⟩
        exact SqT.of upd_same
      · rintro i y σ H1 H2 hlt ⟨rfl, x2, rfl⟩ ⟨rfl, hy⟩
        have ei : i = 0 := by
          have : i < 1 := hlt
          omega
        subst ei
        have ey : V.str z = y := Option.some.inj hy
        subst ey
        exact ⟨_, rfl, _, _, _, _, false, rfl, .ty "tuple", .base (.str _), kit_ty (by decide +kernel), _, rfl, iteF ⟨rfl, _, rfl⟩⟩
      · rintro σ H1 ⟨rfl, x2, rfl⟩
        refine ⟨_, rfl, q _ (k1.trans s1.kp) (s1 _ _ e1)⟩
    · refine hd_eq (i := 0) rfl ha ⟨_, rfl, iteFc (decide_eq_false c) ?_⟩
      refine ⟨_, rfl, 1, rfl, a, _, rfl, SqT.of ha, cut1_ok _ _, fun p hp => ?_⟩
      rw [cut1]
      have s1 : Same H (upd H p (.tup xs)) := same_new hp _
      have npd : p ≠ d := ne_of (H := upd H p (.tup xs)) upd_same (s1 _ _ hdo) (by intro z; cases z)
      have hke : keptN t = kepO (restT t) := by
        cases t with
        | v k => rfl
        | nm z => exact absurd rfl c
        | nd z ks =>
          show keptL ks = kepO (ks.map some)
          rw [kepO_map]
      refine ⟨p, rfl, ⟨_, SqT.of upd_same⟩, for_it (walk_tup (xs := xs)) (fun i σ H' => ∃ (g2 : List Str) (x2 : Option V), σ = [some (V.ref a), some (V.ref d), x2] ∧ Kp d (upd H p (.tup xs)) H' ∧ Lst H' d g2 ∧ g2 ++ kepO ((restT t).drop i) = g ++ keptN t ∧ g2.length + sumO ((restT t).drop i) ≤ 100000)
        ⟨g, none, rfl, Kp.refl _ _, s1 _ _ hdo, by rw [List.drop_zero, hke], by rw [List.drop_zero]; have := knots_rest t; omega⟩ ?_ ?_ ?_⟩
      · rintro i σ H1 _ ⟨g2, x2, rfl, s2, _⟩
        exact SqT.of (s2 _ _ npd upd_same)
      · rintro i y σ H1 H2 _ ⟨g2, x2, rfl, s2, h2, e2, l2⟩ ⟨rfl, hy⟩
        have tk : Tk H H2 := (s1.kp.trans s2).tk hdo (by intro z e; cases e)
        obtain ⟨o, ho, hat⟩ := hi.at_ i y hy
        rw [drop_rest ho] at e2 l2
        cases o with
        | none =>
          rcases hat with ⟨j, rfl⟩ | ⟨z, rfl⟩
          · exact ⟨_, rfl, _, _, _, _, false, rfl, .ty "tuple", .base (.int _), kit_ty (by decide +kernel), _, rfl, iteF ⟨g2, _, rfl, s2, h2, e2, l2⟩⟩
          · exact ⟨_, rfl, _, _, _, _, false, rfl, .ty "tuple", .base (.str _), kit_ty (by decide +kernel), _, rfl, iteF ⟨g2, _, rfl, s2, h2, e2, l2⟩⟩
        | some k =>
          have hat' : At H2 k y := At.mono tk hat
          obtain ⟨b', ys, rfl, hb⟩ := hat'.tup
          have hdm := depth_mem ho
          have hr0 := depth_rest t
          have hwk : ∃ bk, wf bk k := by
            cases t with
            | v k => rcases i with _ | i <;> simp [restT] at ho
            | nm z => rcases i with _ | i <;> simp [restT] at ho
            | nd z ks =>
              have ho' : (ks.map some)[i]? = some (some k) := ho
              rw [List.getElem?_map] at ho'
              obtain ⟨k', hk1, hk2⟩ := Option.map_eq_some_iff.mp ho'
              cases hk2
              have hlt := (List.getElem?_eq_some_iff.mp hk1).1
              have hk3 : ks.drop i = k :: ks.drop (i + 1) := by
                rw [List.drop_eq_getElem_cons hlt]
                rw [List.getElem?_eq_getElem hlt] at hk1
                rw [Option.some.inj hk1]
              unfold wf at hw
              obtain ⟨_, l, _, hl⟩ := hw
              exact wfL_drop i hl hk3
          obtain ⟨bk, hbk⟩ := hwk
          have el : sumO (some k :: (restT t).drop (i + 1)) = knots k + sumO ((restT t).drop (i + 1)) := rfl
          have ek : kepO (some k :: (restT t).drop (i + 1)) = keptN k ++ kepO ((restT t).drop (i + 1)) := rfl
          have hle := kept_len k
          refine ⟨_, rfl, _, _, _, _, true, rfl, .ty "tuple", .base (.tup hb), kit_ty (by decide +kernel), _, rfl, iteT ⟨_, rfl, _, rfl, k, _, bk, d, g2, rfl, hat', hbk, by omega, h2, by omega, fun H3 s3 h3 => ⟨g2 ++ keptN k, _, rfl, s2.trans s3, h3, ?_, ?_⟩⟩⟩
          · rw [List.append_assoc, ← ek]
            exact e2
          · rw [List.length_append]
            omega
      · rintro σ H1 ⟨g2, x2, rfl, s2, h2, e2, l2⟩
        rw [hi.len, List.drop_length] at e2
        have e3 : g2 = g ++ keptN t := by
          rw [← e2]
          show g2 = g2 ++ []
          rw [List.append_nil]
        subst e3
        exact ⟨_, rfl, q _ (s1.kp.trans s2) h2⟩
end
end KP
set_option Elab.async false
set_option linter.all false
set_option maxRecDepth 100000
set_option maxHeartbeats 4000000
/-! KpLaw3: the law's small defs. -/
namespace KP
open PySem PySem.Spec PyProof.Rows L2
theorem or_eq {σ : L2.St} {H : Hp} {w z : Str} {rest : TT} {Q : Bool → Hp → Prop} (hv : σ[0]? = some (some (V.str w))) (h1 : w = z → Q true H) (h2 : w ≠ z → rest σ H Q) : tOr (tTest (tOp rEq (tVar 0) (tC (.str z)))) rest σ H Q := by
  refine ⟨_, hv, rfl, _, rfl, ite2 (fun c => ?_) (fun c => ?_)⟩
  · exact h1 (V.str.inj (of_decide_eq_true c))
  · exact h2 fun e => c (decide_eq_true (by rw [e]))
theorem is_eq {σ : L2.St} {H : Hp} {w z : Str} {Q : Bool → Hp → Prop} (hv : σ[0]? = some (some (V.str w))) (h1 : w = z → Q true H) (h2 : w ≠ z → Q false H) : tTest (tOp rEq (tVar 0) (tC (.str z))) σ H Q := by
  by_cases c : w = z
  · refine ⟨_, hv, rfl, _, rfl, ?_⟩
    rw [decide_eq_true (by rw [c])]
    exact h1 c
  · refine ⟨_, hv, rfl, _, rfl, ?_⟩
    rw [decide_eq_false fun e => c (V.str.inj e)]
    exact h2 c
/-- _law_shape -/
def lsh (w : Str) : Str := if w = "all" ∨ w = "some" then "kk" else if w = "fun" ∨ w = "like" ∨ w = "never" then "kt" else if w = "same" ∨ w = "carry" ∨ w = "pair" then "ktt" else if w = "app" then "tt" else if w = "rec" then "kttt" else "t"
/-- _law_bound -/
def lbd (w : Str) : Int := if w = "all" ∨ w = "some" ∨ w = "fun" then 1 else if w = "rec" ∨ w = "carry" then 0 else -1
theorem lbd_bp : ∀ w ∈ all16, ∀ i ∈ List.range 4, decide ((i : Int) = lbd w) = decide (i = bpN w) := by decide +kernel
def cell (ns : List Int) (k : Nat) : Int := ns.getD k 0
/-! ### the promises -/
def spCell (K : PySem.W.Frag) : Sp := fun vs H Q _ => ∃ (a : Addr) (ns : List Int) (k : Nat), vs = [.ref a, .int (k : Int)] ∧ SqL K H a (ns.map V.int) ∧ Q (.int (cell ns k)) H
def spLsh : Sp := fun vs H Q _ => ∃ w : Str, vs = [.str w] ∧ Q (.str (lsh w)) H
def spLbd : Sp := fun vs H Q _ => ∃ w : Str, vs = [.str w] ∧ Q (.int (lbd w)) H
def spGreat (n : Nat) : Sp := fun vs H Q _ => ∃ (t : T) (x : V) (b : Bool) (o : Nat), vs = [x, .int (o : Int)] ∧ At H t x ∧ wf b t ∧ depth t ≤ n ∧ ∀ H', Same H H' → Q (.int (gr t o)) H'
def spLRead : Sp := fun vs H Q _ => ∃ (z : Str) (n : Addr) (b : Bool) (names : List Str) (p : PM), vs = [.str z, .str (wantT b), .ref n] ∧ z.length ≤ 400000 ∧ Lst H n names ∧ runM names (wantT b) (wordsS z) ([], none) = some ([], some p) ∧ ∀ (y : V) (H' : Hp), Same H H' → At H' p.t y → Q y H'
section
variable {P : Program} {w : World} {K : PySem.W.Frag} {mg : Str → Option Value} {base : Heap}
abbrev n_law_cell_at : List Str := ["_law_script", "_law_k"]
theorem sc_law_cell_at : FnScope n_law_cell_at ["_law_script", "_law_k"] (defScope s_law_cell_at) := ⟨rfl, rfl, rfl, by decide +kernel, rfl, by decide +kernel, by decide +kernel⟩
theorem ok_law_cell_at (D : Def K mg "_law_cell_at" s_law_cell_at ["_law_script", "_law_k"]) (Z : Blt mg) : Good P w K mg base 1 "_law_cell_at" ["_law_script", "_law_k"] (spCell K) := by
  refine D.ok sc_law_cell_at (fun vs H Q E h => ?_) (fun cdv A outer s H vs Q E f hr h => ?_)
  · obtain ⟨a, ns, k, rfl, _⟩ := h
    rfl
  obtain ⟨a, ns, k, rfl, ha, q⟩ := h
  refine ⟨_, (pss_cons (ps_if (pt_cmpR op_lt (pv 1) (pe_callB call_len_seq (by rfl) Z.len (by decide +kernel) (pa_cons (pv 0) pa_nil)) (nomark _)) (pss_one (ps_ret (pe_ix ix_list (pv 0) (pv 1) (fun _ _ => rfl)))) pss_nil)
    (pss_one (ps_ret pe_int))), ?_⟩
  refine ⟨_, rfl, _, rfl, a, _, rfl, .inl ha, _, _, rfl, rfl, _, rfl, ite2 (fun c => ?_) (fun c => ?_)⟩
  · have hlt : k < ns.length := by
      have := of_decide_eq_true c
      rw [List.length_map] at this
      omega
    have e : cell ns k = ns[k] := by
      unfold cell
      rw [List.getD_eq_getElem?_getD, List.getElem?_eq_getElem hlt]
      rfl
    rw [e] at q
    exact ⟨_, rfl, _, rfl, a, _, _, _, rfl, rfl, ha, atI_nat (j := k) (by rw [List.getElem?_map, List.getElem?_eq_getElem hlt]; rfl), q⟩
  · have hge : ns.length ≤ k := by
      have := of_decide_eq_false (Bool.eq_false_iff.mpr c)
      rw [List.length_map] at this
      omega
    have e : cell ns k = 0 := by
      unfold cell
      rw [List.getD_eq_getElem?_getD, List.getElem?_eq_none hge]
      rfl
    rw [e] at q
    exact q
abbrev n_law_shape : List Str := ["_law_word"]
theorem sc_law_shape : FnScope n_law_shape ["_law_word"] (defScope s_law_shape) := ⟨rfl, rfl, rfl, by decide +kernel, rfl, by decide +kernel, by decide +kernel⟩
theorem ok_law_shape (D : Def K mg "_law_shape" s_law_shape ["_law_word"]) : Good P w K mg base 1 "_law_shape" ["_law_word"] spLsh := by
  refine D.ok sc_law_shape (fun vs H Q E h => ?_) (fun cdv A outer s H vs Q E f hr h => ?_)
  · obtain ⟨z, rfl, _⟩ := h
    rfl
  obtain ⟨z, rfl, q⟩ := h
  refine ⟨_, (pss_cons (ps_if (PW.pt (pw_or (pt_cmpR op_eq (pv 0) pe_str (nomark _)) (pw_or1 (pt_cmpR op_eq (pv 0) pe_str (nomark _))))) (pss_one (ps_ret pe_str)) pss_nil)
    (pss_cons (ps_if (PW.pt (pw_or (pt_cmpR op_eq (pv 0) pe_str (nomark _)) (pw_or (pt_cmpR op_eq (pv 0) pe_str (nomark _)) (pw_or1 (pt_cmpR op_eq (pv 0) pe_str (nomark _)))))) (pss_one (ps_ret pe_str)) pss_nil)
    (pss_cons (ps_if (PW.pt (pw_or (pt_cmpR op_eq (pv 0) pe_str (nomark _)) (pw_or (pt_cmpR op_eq (pv 0) pe_str (nomark _)) (pw_or1 (pt_cmpR op_eq (pv 0) pe_str (nomark _)))))) (pss_one (ps_ret pe_str)) pss_nil)
    (pss_cons (ps_if (pt_cmpR op_eq (pv 0) pe_str (nomark _)) (pss_one (ps_ret pe_str)) pss_nil)
    (pss_cons (ps_if (pt_cmpR op_eq (pv 0) pe_str (nomark _)) (pss_one (ps_ret pe_str)) pss_nil)
    (pss_one (ps_ret pe_str))))))), ?_⟩
  unfold lsh at q
  dsimp only [tSeq, tIfS]
  refine or_eq rfl (fun e => iteT ?_) (fun e1 => is_eq rfl (fun e => iteT ?_) (fun e2 => iteF ?_))
  · rw [if_pos (.inl e)] at q
    exact q
  · rw [if_pos (.inr e)] at q
    exact q
  rw [if_neg (fun e => e.elim e1 e2)] at q
  refine or_eq rfl (fun e => iteT ?_) (fun e1 => or_eq rfl (fun e => iteT ?_) (fun e2 => is_eq rfl (fun e => iteT ?_) (fun e3 => iteF ?_)))
  · rw [if_pos (.inl e)] at q
    exact q
  · rw [if_pos (.inr (.inl e))] at q
    exact q
  · rw [if_pos (.inr (.inr e))] at q
    exact q
  rw [if_neg (fun e => e.elim e1 fun e => e.elim e2 e3)] at q
  refine or_eq rfl (fun e => iteT ?_) (fun e1 => or_eq rfl (fun e => iteT ?_) (fun e2 => is_eq rfl (fun e => iteT ?_) (fun e3 => iteF ?_)))
  · rw [if_pos (.inl e)] at q
    exact q
  · rw [if_pos (.inr (.inl e))] at q
    exact q
  · rw [if_pos (.inr (.inr e))] at q
    exact q
  rw [if_neg (fun e => e.elim e1 fun e => e.elim e2 e3)] at q
  refine is_eq rfl (fun e => iteT ?_) (fun e1 => iteF ?_)
  · rw [if_pos e] at q
    exact q
  rw [if_neg e1] at q
  refine is_eq rfl (fun e => iteT ?_) (fun e1 => iteF ?_)
  · rw [if_pos e] at q
    exact q
  rw [if_neg e1] at q
  exact q
abbrev n_law_bound : List Str := ["_law_word"]
theorem sc_law_bound : FnScope n_law_bound ["_law_word"] (defScope s_law_bound) := ⟨rfl, rfl, rfl, by decide +kernel, rfl, by decide +kernel, by decide +kernel⟩
theorem ok_law_bound (D : Def K mg "_law_bound" s_law_bound ["_law_word"]) : Good P w K mg base 1 "_law_bound" ["_law_word"] spLbd := by
  refine D.ok sc_law_bound (fun vs H Q E h => ?_) (fun cdv A outer s H vs Q E f hr h => ?_)
  · obtain ⟨z, rfl, _⟩ := h
    rfl
  obtain ⟨z, rfl, q⟩ := h
  refine ⟨_, (pss_cons (ps_if (PW.pt (pw_or (pt_cmpR op_eq (pv 0) pe_str (nomark _)) (pw_or (pt_cmpR op_eq (pv 0) pe_str (nomark _)) (pw_or1 (pt_cmpR op_eq (pv 0) pe_str (nomark _)))))) (pss_one (ps_ret pe_int)) pss_nil)
    (pss_cons (ps_if (PW.pt (pw_or (pt_cmpR op_eq (pv 0) pe_str (nomark _)) (pw_or1 (pt_cmpR op_eq (pv 0) pe_str (nomark _))))) (pss_one (ps_ret pe_int)) pss_nil)
    (pss_one (ps_ret (pe_un un_neg pe_int))))), ?_⟩
  unfold lbd at q
  dsimp only [tSeq, tIfS]
  refine or_eq rfl (fun e => iteT ?_) (fun e1 => or_eq rfl (fun e => iteT ?_) (fun e2 => is_eq rfl (fun e => iteT ?_) (fun e3 => iteF ?_)))
  · rw [if_pos (.inl e)] at q
    exact q
  · rw [if_pos (.inr (.inl e))] at q
    exact q
  · rw [if_pos (.inr (.inr e))] at q
    exact q
  rw [if_neg (fun e => e.elim e1 fun e => e.elim e2 e3)] at q
  refine or_eq rfl (fun e => iteT ?_) (fun e1 => is_eq rfl (fun e => iteT ?_) (fun e2 => iteF ?_))
  · rw [if_pos (.inl e)] at q
    exact q
  · rw [if_pos (.inr e)] at q
    exact q
  rw [if_neg (fun e => e.elim e1 e2)] at q
  exact ⟨_, rfl, q⟩
abbrev n_law_read : List Str := ["_law_line", "_law_want", "_law_names_here"]
theorem sc_law_read : FnScope n_law_read ["_law_line", "_law_want", "_law_names_here"] (defScope s_law_read) := ⟨rfl, rfl, rfl, by decide +kernel, rfl, by decide +kernel, by decide +kernel⟩
theorem ok_law_read (D : Def K mg "_law_read" s_law_read ["_law_line", "_law_want", "_law_names_here"]) (G_read_kind : Good P w K mg base 9 "read_kind" ["text", "names"] (spReadB true)) (G_read_term : Good P w K mg base 9 "read_term" ["text", "names"] (spReadB false)) :
    Good P w K mg base 10 "_law_read" ["_law_line", "_law_want", "_law_names_here"] spLRead := by
  refine D.ok sc_law_read (fun vs H Q E h => ?_) (fun cdv A outer s H vs Q E f hr h => ?_)
  · obtain ⟨z, n, b, names, p, rfl, _⟩ := h
    rfl
  obtain ⟨z, n, b, names, p, rfl, hz, hn, hrun, q⟩ := h
  refine ⟨_, (pss_cons (ps_if (pt_cmpR op_eq (pv 1) pe_str (nomark _)) (pss_one (ps_ret (gcall G_read_kind (hr.mono (by omega)) (pa_cons (pv 0) (pa_cons (pv 2) pa_nil))))) pss_nil)
    (pss_one (ps_ret (gcall G_read_term (hr.mono (by omega)) (pa_cons (pv 0) (pa_cons (pv 2) pa_nil)))))), ?_⟩
  cases b with
  | true => exact ⟨_, rfl, rfl, _, rfl, iteTc (by show decide (V.str "k" = V.str "k") = true; exact decide_eq_true rfl) ⟨_, rfl, _, rfl, z, n, names, p, rfl, hz, hn, hrun, q⟩⟩
  | false => exact ⟨_, rfl, rfl, _, rfl, iteFc (by show decide (V.str "t" = V.str "k") = false; decide +kernel) ⟨_, rfl, _, rfl, z, n, names, p, rfl, hz, hn, hrun, q⟩⟩
abbrev n_law_greatest : List Str := ["_law_thing_here", "_law_over", "_law_found", "_law_k"]
theorem sc_law_greatest : FnScope n_law_greatest ["_law_thing_here", "_law_over"] (defScope s_law_greatest) := ⟨rfl, rfl, rfl, by decide +kernel, rfl, by decide +kernel, by decide +kernel⟩
theorem ok_law_greatest (D : Def K mg "_law_greatest" s_law_greatest ["_law_thing_here", "_law_over"]) (Z : Blt mg) (G_law_bound : Good P w K mg base 1 "_law_bound" ["_law_word"] spLbd) :
    ∀ n : Nat, Good P w K mg base (n + 2) "_law_greatest" ["_law_thing_here", "_law_over"] (spGreat n)
  | 0 => Good.none D fun vs H Q E h => by
    obtain ⟨t, x, b, o, _, _, _, h0, _⟩ := h
    have := depth_rest t
    omega
  | n + 1 => by
    have G_law_greatest := ok_law_greatest D Z G_law_bound n
    refine D.ok sc_law_greatest (fun vs H Q E h => ?_) (fun cdv A outer s H vs Q E f hr h => ?_)
    · obtain ⟨t, x, b, o, rfl, _⟩ := h
      rfl
    obtain ⟨t, x, b, o, rfl, hx, hw, hn, q⟩ := h
    obtain ⟨a, xs, rfl, ha⟩ := hx.tup
    refine ⟨_, (pss_cons (ps_if (pt_cmpR op_eq (pe_ix ix_tup (pv 0) pe_int (fun _ _ => rfl)) pe_str (nomark _)) (pss_one (ps_ret (pe_op op_sub (pe_ix ix_tup (pv 0) pe_int (fun _ _ => rfl)) (pv 1)))) pss_nil)
    (pss_cons (ps_set (i := 2) sc_law_greatest.nd rfl (Or.inl rfl) (pe_un un_neg pe_int))
    (pss_cons (ps_for PassesOwn.never rfl (pi_range2 (by rfl) Z.range (pa_cons pe_int (pa_cons (pe_callB call_len_seq (by rfl) Z.len (by decide +kernel) (pa_cons (pv 0) pa_nil)) pa_nil))) (pg_name (i := 3) sc_law_greatest.nd rfl (Or.inl rfl)) (pss_one (ps_if (pt_val (pe_callB call_isi (by rfl) Z.isinstance (by decide +kernel) (pa_cons (pe_ix ix_tup (pv 0) (pv 3) (fun _ _ => rfl)) (pa_cons (pe_bltn (v := .ty "tuple") (by rfl) Z.tuple (by decide +kernel) rfl) pa_nil)))) (pss_one (ps_set (i := 2) sc_law_greatest.nd rfl (Or.inl rfl) (pe_callB (call_max2 rfl) (by rfl) Z.max (by decide +kernel) (pa_cons (pv 2) (pa_cons (gcall G_law_greatest (hr.mono (by omega)) (pa_cons (pe_ix ix_tup (pv 0) (pv 3) (fun _ _ => rfl)) (pa_cons (pe_op op_add (pv 1) (pe_callTy call_int1 (by rfl) Z.int (by decide +kernel) (pa_cons (pe_cmpR op_eq (pe_op op_sub (pv 3) pe_int) (gcall G_law_bound (hr.mono (by omega)) (pa_cons (pe_ix ix_tup (pv 0) pe_int (fun _ _ => rfl)) pa_nil)) (nomark _)) pa_nil))) pa_nil))) pa_nil))))) pss_nil)))
    (pss_one (ps_ret (pv 2)))))), ?_⟩
    cases t with
    | v k =>
      obtain ⟨a', e, ha'⟩ := hx.var
      cases e
      exact hd_eq (i := 0) rfl ha ⟨_, rfl, iteTc rfl ⟨_, rfl, a, _, _, _, rfl, rfl, SqT.of ha', at1, _, rfl, _, _, rfl, rfl, q _ (Same.refl H)⟩⟩
    | nm z =>
      obtain ⟨a', e, ha'⟩ := hx.nam
      cases e
      refine hd_eq (i := 0) rfl ha ⟨_, rfl, iteFc (show decide (("name" : Str) = "var") = false by decide +kernel) ⟨_, rfl, ?_⟩⟩
      refine ⟨_, rfl, a, _, rfl, .inr (SqT.of ha'), 1, 2, rfl, ⟨by decide, by decide, by decide, by decide⟩, for_range (lo := 1) (n := 1) (fun i σ H' => H' = H ∧ ∃ x3 : Option V, σ = [some (V.ref a), some (V.int (o : Int)), some (V.int (-1)), x3]) ⟨rfl, none, rfl⟩ ?_ ?_⟩
      · rintro i σ H1 hi ⟨rfl, x3, rfl⟩
        have ei : i = 0 := by omega
        subst ei
        exact ⟨_, rfl, _, rfl, a, _, _, _, rfl, rfl, SqT.of ha', at1, _, _, _, _, false, rfl, .ty "tuple", .base (.str _), kit_ty (by decide +kernel), _, rfl, iteF ⟨rfl, _, rfl⟩⟩
      · rintro σ H1 ⟨rfl, x3, rfl⟩
        exact ⟨_, rfl, q _ (Same.refl _)⟩
    | nd z ks =>
      obtain ⟨a', vs, e, ha', hk⟩ := hx.nod
      cases e
      refine hd_eq (i := 0) rfl ha ⟨_, rfl, iteFc (decide_eq_false (nodeOk_of hw).1) ⟨_, rfl, ?_⟩⟩
      have hw' := hw
      unfold wf at hw'
      obtain ⟨_, l, hl, hwl⟩ := hw'
      have h16 := shapeL_mem hl
      have h4 : ks.length ≤ 4 := by rw [wfL_length hwl]; exact four_le hl
      have hvl := hk.length
      have hL : ((V.str z :: vs).length : Int) = ((ks.length + 1 : Nat) : Int) := by rw [List.length_cons, hvl]
      have hn2 : (((V.str z :: vs).length : Int) - 1).toNat = ks.length := by rw [hL]; omega
      refine ⟨_, rfl, a, _, rfl, .inr (SqT.of ha'), 1, _, rfl, ⟨by omega, by omega, by omega, by omega⟩, for_range (lo := 1) (fun i σ H' => ∃ (m : Int) (x3 : Option V), σ = [some (V.ref a), some (V.int (o : Int)), some (V.int m), x3] ∧ Same H H' ∧ -1 ≤ m ∧ max m (grL z (ks.drop i) i o) = gr (.nd z ks) o) ⟨-1, none, rfl, Same.refl H, Int.le_refl _, ?_⟩ ?_ ?_⟩
      · have := grL_ge z ks 0 o
        rw [List.drop_zero]
        show max (-1) (grL z ks 0 o) = grL z ks 0 o
        omega
      · rintro i σ H1 hi ⟨m, x3, rfl, s1, hm, g1⟩
        rw [hn2] at hi
        have hlt : i < vs.length := by omega
        obtain ⟨k, hk1, hk2, hk3⟩ := hk.get (List.getElem?_eq_getElem hlt)
        rw [hk3] at g1
        have g2 : max m (max (gr k (o + bdI z i)) (grL z (ks.drop (i + 1)) (i + 1) o)) = gr (.nd z ks) o := g1
        have hat : At H1 k vs[i] := At.mono s1.tk hk2
        obtain ⟨b', ys, eb, hb⟩ := hat.tup
        obtain ⟨bk, hbk⟩ := wfL_drop i hwl hk3
        have hdp := depthL_drop hk3
        have hdl := depthL_le ks i
        have hd0 : depth (.nd z ks) = 1 + depthL ks := rfl
        have ha1 := s1 _ _ ha'
        have ix : atI (V.str z :: vs) (1 + (i : Int)) = some (V.ref b') := by
          rw [show (1 + (i : Int)) = ((i + 1 : Nat) : Int) by omega]
          refine atI_nat (j := i + 1) ?_
          rw [List.getElem?_cons_succ, List.getElem?_eq_getElem hlt, eb]
        rw [eb] at hat
        have eo : ((o : Int) + (if decide (V.int (1 + (i : Int) - 1) = V.int (lbd z)) = true then 1 else 0)) = ((o + bdI z i : Nat) : Int) := by
          have q1 := lbd_bp z h16 i (List.mem_range.mpr (by omega))
          have q2 : decide (V.int (1 + (i : Int) - 1) = V.int (lbd z)) = decide (i = bpN z) := by
            rw [← q1]
            refine decide_eq_decide.mpr ⟨fun e => ?_, fun e => ?_⟩
            · have := V.int.inj e
              omega
            · rw [← e]
              congr 1
              omega
          rw [q2]
          unfold bdI
          by_cases c : i = bpN z
          · rw [if_pos c, if_pos (decide_eq_true c)]
            rfl
          · rw [if_neg c, if_neg (by rw [decide_eq_false c]; exact Bool.false_ne_true)]
            rfl
        refine ⟨_, rfl, _, rfl, a, _, _, _, rfl, rfl, SqT.of ha1, ix, _, _, _, _, true, rfl, .ty "tuple", .base (.tup hb), kit_ty (by decide +kernel), _, rfl, iteT ?_⟩
        refine ⟨_, rfl, _, rfl, _, rfl, a, _, _, _, rfl, rfl, SqT.of ha1, ix, _, rfl, _, rfl, _, _, rfl, rfl, _, rfl, a, _, _, _, rfl, rfl, SqT.of ha1, at0, z, rfl, rfl, .inr ⟨_, rfl, _, _, rfl, rfl, k, _, bk, o + bdI z i, ?_, hat, hbk, by omega, fun H3 s3 => ⟨_, _, rfl, max m (gr k (o + bdI z i)), some (V.int (1 + (i : Int))), ?_, s1.trans s3, by omega, by omega⟩⟩⟩
        · show [V.ref b', V.int ((o : Int) + (if decide (V.int (1 + (i : Int) - 1) = V.int (lbd z)) = true then 1 else 0))] = _
          rw [eo]
        · have e : (if gr k (o + bdI z i) > m then gr k (o + bdI z i) else m) = max m (gr k (o + bdI z i)) := by
            split <;> omega
          rw [e]
          rfl
      · rintro σ H1 ⟨m, x3, rfl, s1, hm, g1⟩
        rw [hn2, List.drop_length] at g1
        have g2 : max m (-1) = gr (.nd z ks) o := g1
        have e : m = gr (.nd z ks) o := by omega
        subst e
        exact ⟨_, rfl, q _ s1⟩
end
end KP
set_option Elab.async false
set_option linter.all false
set_option maxRecDepth 100000
set_option maxHeartbeats 4000000
/-! KpLaw4: the thing that the law draws. -/
namespace KP
open PySem PySem.Spec PyProof.Rows L2
structure Gen (b : Bool) (t : T) (o kn dp : Nat) : Prop where
  w : wf b t
  g : gr t o ≤ 3
  s : small t
  k : ∀ w ∈ keptN t, w ∈ six
  kn : knots t ≤ kn
  dp : depth t ≤ dp
theorem zero_wf : kindS "zero" = false ∧ shapeL "zero" = some [] ∧ kindS "next" = false ∧ shapeL "next" = some [false] ∧ kindS "nat" = true ∧ shapeL "nat" = some [] ∧ kindS "none" = true ∧ shapeL "none" = some [] := by decide +kernel
theorem fig_wf : ∀ n : Nat, wf false (figT n)
  | 0 => by
    unfold figT wf
    exact ⟨zero_wf.1, [], zero_wf.2.1, by unfold wfL; trivial⟩
  | n + 1 => by
    unfold figT wf
    exact ⟨zero_wf.2.2.1, [false], zero_wf.2.2.2.1, by unfold wfL; exact ⟨fig_wf n, by unfold wfL; trivial⟩⟩
theorem fig_gr : ∀ n o : Nat, gr (figT n) o = -1
  | 0, o => rfl
  | n + 1, o => by
    show max (gr (figT n) (o + bdI "next" 0)) (-1) = -1
    rw [fig_gr n]
    rfl
theorem fig_small : ∀ n : Nat, small (figT n)
  | 0 => by unfold figT small smallL; trivial
  | n + 1 => by
    unfold figT small smallL
    exact ⟨fig_small n, by unfold smallL; trivial⟩
theorem fig_kept : ∀ n : Nat, keptN (figT n) = []
  | 0 => rfl
  | n + 1 => by
    show keptN (figT n) ++ [] = []
    rw [fig_kept n]
    rfl
theorem fig_knots : ∀ n : Nat, knots (figT n) = n + 1
  | 0 => rfl
  | n + 1 => by
    show 1 + (knots (figT n) + 0) = n + 1 + 1
    rw [fig_knots n]
    omega
theorem fig_depth : ∀ n : Nat, depth (figT n) = n + 1
  | 0 => rfl
  | n + 1 => by
    show 1 + max (depth (figT n)) 0 = n + 1 + 1
    rw [fig_depth n]
    omega
theorem gen_leaf {w : Str} {b : Bool} (o kn : Nat) (h1 : kindS w = b) (h2 : shapeL w = some []) (hk : 1 ≤ kn) : Gen b (.nd w []) o kn 31 := by
  refine ⟨?_, by show (-1 : Int) ≤ 3; decide, by unfold small smallL; trivial, (fun x hx => nomatch hx), hk, by show 1 ≤ 31; decide⟩
  unfold wf
  exact ⟨h1, [], h2, by unfold wfL; trivial⟩
theorem six_name : ∀ w ∈ six, nameS w = true := by decide +kernel
/-- the state of the draw -/
def spLeafL : Sp := fun vs H Q _ => ∃ (c : Int) (b : Bool) (o : Nat) (st : Addr) (p : Int) (q : Nat), vs = [.int c, .str (wantT b), .int (o : Int), .ref st] ∧ H st = some (.lst [.int p, .int (q : Int)]) ∧ o ≤ 50 ∧ q ≤ 1000 ∧
  ∀ (t : T) (y : V) (q' : Nat) (H' : Hp), Kp st H H' → H' st = some (.lst [.int p, .int (q' : Int)]) → q' ≤ q → At H' t y → Gen b t o (1 + (q - q')) 31 → Q y H'
section
variable {P : Program} {w : World} {K : PySem.W.Frag} {mg : Str → Option Value} {base : Heap}
abbrev n_law_leaf : List Str := ["_law_cell", "_law_want", "_law_over", "_law_state", "_law_many", "_law_thing_here", "_law_k"]
theorem sc_law_leaf : FnScope n_law_leaf ["_law_cell", "_law_want", "_law_over", "_law_state"] (defScope s_law_leaf) := ⟨rfl, rfl, rfl, by decide +kernel, rfl, by decide +kernel, by decide +kernel⟩
theorem ok_law_leaf (D : Def K mg "_law_leaf" s_law_leaf ["_law_cell", "_law_want", "_law_over", "_law_state"]) (Z : Blt mg) : Good P w K mg base 1 "_law_leaf" ["_law_cell", "_law_want", "_law_over", "_law_state"] spLeafL := by
  refine D.ok sc_law_leaf (fun vs H Q E h => ?_) (fun cdv A outer s H vs Q E f hr h => ?_)
  · obtain ⟨c, b, o, st, p, q, rfl, _⟩ := h
    rfl
  obtain ⟨c, b, o, st, p, q, rfl, hst, ho, hq, qq⟩ := h
  refine ⟨_, (pss_cons (ps_if (pt_cmpR op_eq (pv 1) pe_str (nomark _)) (pss_one (ps_ret (pe_ix ix_list (pe_lst (pa_cons (pe_tup (pa_cons pe_str pa_nil)) (pa_cons (pe_tup (pa_cons pe_str pa_nil)) pa_nil))) (pe_op op_mod (pv 0) pe_int) (fun _ _ => rfl)))) pss_nil)
    (pss_cons (ps_if (pt_cmpR op_eq (pe_op op_mod (pv 0) pe_int) pe_int (nomark _)) (pss_cons (ps_set (i := 4) sc_law_leaf.nd rfl (Or.inl rfl) (pe_callB (call_min2 rfl) (by rfl) Z.min (by decide +kernel) (pa_cons (pe_op op_mod (pe_op op_fdiv (pv 0) pe_int) pe_int) (pa_cons (pe_ix ix_list (pv 3) pe_int (fun _ _ => rfl)) pa_nil))))
      (pss_cons (ps_asg (pe_op op_sub (pe_ix ix_list (pv 3) pe_int (fun _ _ => rfl)) (pv 4)) (pg_sub (pv 3) pe_int set_list))
      (pss_cons (ps_set (i := 5) sc_law_leaf.nd rfl (Or.inl rfl) (pe_tup (pa_cons pe_str pa_nil)))
      (pss_cons (ps_for PassesOwn.never rfl (pi_range1 (by rfl) Z.range (pa_cons (pv 4) pa_nil)) (pg_name (i := 6) sc_law_leaf.nd rfl (Or.inl rfl)) (pss_one (ps_set (i := 5) sc_law_leaf.nd rfl (Or.inl rfl) (pe_tup (pa_cons pe_str (pa_cons (pv 5) pa_nil))))))
      (pss_one (ps_ret (pv 5))))))) pss_nil)
    (pss_cons (ps_if (pt_cmpR op_eq (pe_op op_mod (pv 0) pe_int) pe_int (nomark _)) (pss_one (ps_ret (pe_tup (pa_cons pe_str (pa_cons (pe_ix ix_list (pe_lst (pa_cons pe_str (pa_cons pe_str (pa_cons pe_str (pa_cons pe_str (pa_cons pe_str (pa_cons pe_str pa_nil))))))) (pe_op op_mod (pe_op op_fdiv (pv 0) pe_int) pe_int) (fun _ _ => rfl)) pa_nil))))) pss_nil)
    (pss_one (ps_ret (pe_tup (pa_cons pe_str (pa_cons (pe_op op_mod (pe_op op_fdiv (pv 0) pe_int) (pe_op op_add (pv 2) pe_int)) pa_nil)))))))), ?_⟩
  cases b with
  | true =>
    refine ⟨_, rfl, rfl, _, rfl, iteTc (by show decide (V.str "k" = V.str "k") = true; exact decide_eq_true rfl) ?_⟩
    refine ⟨smallN (by show 1 ≤ 1000000; decide), fun p1 hp1 => ⟨smallN (by show 1 ≤ 1000000; decide), fun p2 hp2 => ⟨smallN (by show 2 ≤ 1000000; decide), fun l hl => ?_⟩⟩⟩
    have s1 := same_new hp1 (.tup [V.str "nat"])
    have s2 := same_new hp2 (.tup [V.str "none"])
    have s3 := same_new hl (.lst [V.ref p1, V.ref p2])
    have S := (s1.trans s2).trans s3
    have hc : c % 2 = ((0 : Nat) : Int) ∨ c % 2 = ((1 : Nat) : Int) := by omega
    rcases hc with hc | hc
    · refine ⟨_, rfl, _, _, rfl, rfl, (by show (0 : Int) < 2; decide), l, _, _, .ref p1, rfl, rfl, SqL.of upd_same, by rw [hc]; exact atI_nat rfl, ?_⟩
      exact qq (.nd "nat" []) _ q _ S.kp (S _ _ hst) (Nat.le_refl _) (At.mk (ks := []) (s3 _ _ (s2 _ _ upd_same)) .nil) (gen_leaf o _ zero_wf.2.2.2.2.1 zero_wf.2.2.2.2.2.1 (by omega))
    · refine ⟨_, rfl, _, _, rfl, rfl, (by show (0 : Int) < 2; decide), l, _, _, .ref p2, rfl, rfl, SqL.of upd_same, by rw [hc]; exact atI_nat rfl, ?_⟩
      exact qq (.nd "none" []) _ q _ S.kp (S _ _ hst) (Nat.le_refl _) (At.mk (ks := []) (s3 _ _ upd_same) .nil) (gen_leaf o _ zero_wf.2.2.2.2.2.2.1 zero_wf.2.2.2.2.2.2.2 (by omega))
  | false =>
    refine ⟨_, rfl, rfl, _, rfl, iteFc (by show decide (V.str "t" = V.str "k") = false; decide +kernel) ?_⟩
    refine ⟨_, rfl, _, _, rfl, rfl, (by show (0 : Int) < 4; decide), rfl, _, rfl, ite2 (fun c1 => ?_) (fun c1 => ?_)⟩
    · refine ⟨_, rfl, _, _, rfl, rfl, ⟨by decide, by decide⟩, _, _, rfl, rfl, (by show (0 : Int) < 31; decide), _, rfl, st, _, _, _, rfl, rfl, SqL.of hst, at1, _, _, rfl, ?_⟩
      have hM0 : 0 ≤ (if (q : Int) < c / 4 % 31 then (q : Int) else c / 4 % 31) := by split <;> omega
      have hM1 : (if (q : Int) < c / 4 % 31 then (q : Int) else c / 4 % 31) ≤ q := by split <;> omega
      have hM2 : (if (q : Int) < c / 4 % 31 then (q : Int) else c / 4 % 31) ≤ 30 := by split <;> omega
      obtain ⟨m, hm⟩ : ∃ m : Nat, (if (q : Int) < c / 4 % 31 then (q : Int) else c / 4 % 31) = (m : Int) := ⟨_, (Int.toNat_of_nonneg hM0).symm⟩
      rw [hm] at hM1 hM2
      refine ⟨_, rfl, st, _, _, _, rfl, rfl, SqL.of hst, at1, _, rfl, _, _, rfl, rfl, _, rfl, st, _, 1, 1, rfl, rfl, hst, rfl, ?_⟩
      have k1 : Kp st H (upd H st (.lst ([V.int p, V.int (q : Int)].set 1 (V.int ((q : Int) - (if (q : Int) < c / 4 % 31 then (q : Int) else c / 4 % 31)))))) := kp_upd
      have e1 : ([V.int p, V.int (q : Int)].set 1 (V.int ((q : Int) - (if (q : Int) < c / 4 % 31 then (q : Int) else c / 4 % 31)))) = [V.int p, V.int ((q - m : Nat) : Int)] := by
        rw [hm, show ((q : Int) - (m : Int)) = ((q - m : Nat) : Int) by omega]
        rfl
      refine ⟨smallN (by show 1 ≤ 1000000; decide), fun z hz => ?_⟩
      have s2 := same_new hz (.tup [V.str "zero"])
      have hst1 : upd (upd H st (.lst ([V.int p, V.int (q : Int)].set 1 (V.int ((q : Int) - (if (q : Int) < c / 4 % 31 then (q : Int) else c / 4 % 31)))))) z (.tup [V.str "zero"]) st = some (.lst [V.int p, V.int ((q - m : Nat) : Int)]) := by
        rw [← e1]
        exact s2 _ _ upd_same
      have k2 := k1.trans s2.kp
      refine ⟨_, rfl, _, rfl, by show _ ≤ (if (q : Int) < c / 4 % 31 then (q : Int) else c / 4 % 31); omega, by show (if (q : Int) < c / 4 % 31 then (q : Int) else c / 4 % 31) < _; omega,
        for_range (lo := 0) (fun i σ H' => ∃ (x : V) (xc : Option V), σ = [some (.int c), some (.str (wantT false)), some (.int (o : Int)), some (.ref st), some (.int (if (q : Int) < c / 4 % 31 then (q : Int) else c / 4 % 31)), some x, xc] ∧ Kp st H H' ∧ H' st = some (.lst [V.int p, V.int ((q - m : Nat) : Int)]) ∧ At H' (figT i) x)
        ⟨.ref z, none, rfl, k2, hst1, At.mk (ks := []) upd_same .nil⟩ ?_ ?_⟩
      · rintro i σ H1 hi ⟨x, xc, rfl, k3, h3, h4⟩
        refine ⟨_, rfl, smallN (by show 2 ≤ 1000000; decide), fun p2 hp2 => ?_⟩
        have s3 := same_new hp2 (.tup [V.str "next", x])
        exact ⟨.ref p2, _, rfl, k3.trans s3.kp, s3 _ _ h3, At.mk (ks := [figT i]) upd_same (.cons (h4.mono s3.tk) .nil)⟩
      · rintro σ H1 ⟨x, xc, rfl, k3, h3, h4⟩
        have e2 : ((if (q : Int) < c / 4 % 31 then (q : Int) else c / 4 % 31)).toNat = m := by rw [hm]; exact Int.toNat_natCast m
        rw [e2] at h4
        refine ⟨_, rfl, qq (figT m) _ (q - m) _ k3 h3 (Nat.sub_le _ _) h4 ⟨fig_wf m, by rw [fig_gr]; decide, fig_small m, (fun x hx => by rw [fig_kept] at hx; cases hx), by rw [fig_knots]; omega, by rw [fig_depth]; omega⟩⟩
    · refine ⟨_, rfl, _, _, rfl, rfl, (by show (0 : Int) < 4; decide), rfl, _, rfl, ite2 (fun c2 => ?_) (fun c2 => ?_)⟩
      · refine ⟨smallN (by show 6 ≤ 1000000; decide), fun l hl => ?_⟩
        have s1 := same_new hl (.lst (six.map V.str))
        obtain ⟨m, hm, em⟩ : ∃ m : Nat, m < six.length ∧ c / 4 % 6 = (m : Int) := ⟨(c / 4 % 6).toNat, by show _ < 6; omega, by omega⟩
        refine ⟨_, rfl, _, _, rfl, rfl, ⟨by decide, by decide⟩, _, _, rfl, rfl, (by show (0 : Int) < 6; decide), l, six.map V.str, _, .str six[m], rfl, rfl, SqL.of upd_same, ?_, smallN (by show 2 ≤ 1000000; decide), fun p2 hp2 => ?_⟩
        · rw [em]
          refine atI_nat ?_
          rw [List.getElem?_map, List.getElem?_eq_getElem hm]
          rfl
        · have s2 := same_new hp2 (.tup [V.str "name", V.str six[m]])
          have S := s1.trans s2
          refine qq (.nm six[m]) _ q _ S.kp (S _ _ hst) (Nat.le_refl _) (by unfold At; exact ⟨p2, rfl, upd_same⟩) ⟨?_, by show (-1 : Int) ≤ 3; decide, by unfold small; trivial, ?_, by show 1 ≤ _; omega, by show 1 ≤ 31; decide⟩
          · unfold wf
            exact ⟨rfl, six_name _ (List.getElem_mem hm)⟩
          · intro x hx
            have e : x = six[m] := List.mem_singleton.mp hx
            rw [e]
            exact List.getElem_mem hm
      · obtain ⟨m, hm, em⟩ : ∃ m : Nat, m < o + 4 ∧ c / 4 % ((o : Int) + 4) = (m : Int) := by
          have h0 := Int.emod_nonneg (c / 4) (b := (o : Int) + 4) (by omega)
          have h1 := Int.emod_lt_of_pos (c / 4) (b := (o : Int) + 4) (by omega)
          exact ⟨(c / 4 % ((o : Int) + 4)).toNat, by omega, by omega⟩
        refine ⟨_, rfl, _, _, rfl, rfl, ⟨by decide, by decide⟩, _, rfl, _, _, rfl, rfl, _, _, rfl, rfl, by omega, smallN (by show 2 ≤ 1000000; decide), fun p2 hp2 => ?_⟩
        have s2 := same_new hp2 (.tup [V.str "var", V.int (c / 4 % ((o : Int) + 4))])
        refine qq (.v m) _ q _ s2.kp (s2 _ _ hst) (Nat.le_refl _) ?_ ⟨by unfold wf; rfl, by show (m : Int) - (o : Int) ≤ 3; omega, by unfold small; omega, (fun x hx => nomatch hx), by show 1 ≤ _; omega, by show 1 ≤ 31; decide⟩
        unfold At
        refine ⟨p2, rfl, ?_⟩
        rw [← em]
        exact upd_same
end
end KP
set_option Elab.async false
set_option linter.all false
set_option maxRecDepth 100000
set_option maxHeartbeats 4000000
/-! KpLaw5: the thing that the law draws, the whole. (written by mk_law5.py) -/
namespace KP
open PySem PySem.Spec PyProof.Rows L2
def termW : List Str := ["fun", "app", "next", "rec", "like", "carry", "never", "pair", "first", "second"]
def kindW : List Str := ["all", "some", "same"]
def nodeB (b : Bool) (w : Str) : Bool := (kindS w == b) && ((shapeL w).isSome && (decide (TL.tl (lsh w) = ((shapeL w).getD []).map wantC) && (decide (1 ≤ ((shapeL w).getD []).length) && decide (((shapeL w).getD []).length ≤ 4))))
theorem term_node : ∀ w ∈ termW, nodeB false w = true := by decide +kernel
theorem kind_node : ∀ w ∈ kindW, nodeB true w = true := by decide +kernel
structure Node (b : Bool) (w : Str) (l : List Bool) : Prop where
  kd : kindS w = b
  sh : shapeL w = some l
  ls : TL.tl (lsh w) = l.map wantC
  l1 : 1 ≤ l.length
  l4 : l.length ≤ 4
theorem node_of {b : Bool} {w : Str} (h : nodeB b w = true) : ∃ l, Node b w l := by
  unfold nodeB at h
  simp only [Bool.and_eq_true, decide_eq_true_eq, beq_iff_eq] at h
  obtain ⟨h1, h2, h3, h4, h5⟩ := h
  obtain ⟨l, hl⟩ := Option.isSome_iff_exists.mp h2
  rw [hl] at h3 h4 h5
  exact ⟨l, h1, hl, h3, h4, h5⟩
theorem wfL_snoc : ∀ {l : List Bool} {ts : List T} {b : Bool} {t : T}, wfL l ts → wf b t → wfL (l ++ [b]) (ts ++ [t])
  | [], [], b, t, _, h => by unfold wfL; exact ⟨h, by unfold wfL; trivial⟩
  | c :: l, k :: ts, b, t, h, h2 => by
    simp only [wfL] at h
    show wfL (c :: (l ++ [b])) (k :: (ts ++ [t]))
    unfold wfL
    exact ⟨h.1, wfL_snoc h.2 h2⟩
  | [], _ :: _, b, t, h, _ => by simp [wfL] at h
  | _ :: _, [], b, t, h, _ => by simp [wfL] at h
theorem grL_snoc (w : Str) {m : Int} : ∀ (ts : List T) (i o : Nat) (t : T), grL w ts i o ≤ m → gr t (o + bdI w (i + ts.length)) ≤ m → grL w (ts ++ [t]) i o ≤ m
  | [], i, o, t, h, h2 => by
    show max (gr t (o + bdI w i)) (-1) ≤ m
    have h3 : gr t (o + bdI w i) ≤ m := h2
    have h4 : (-1 : Int) ≤ m := h
    omega
  | k :: ts, i, o, t, h, h2 => by
    show max (gr k (o + bdI w i)) (grL w (ts ++ [t]) (i + 1) o) ≤ m
    have h' : max (gr k (o + bdI w i)) (grL w ts (i + 1) o) ≤ m := h
    rw [List.length_cons, show i + (ts.length + 1) = i + 1 + ts.length by omega] at h2
    have := grL_snoc w ts (i + 1) o t (by omega) h2
    omega
theorem small_snoc : ∀ {ts : List T} {t : T}, smallL ts → small t → smallL (ts ++ [t])
  | [], t, _, h => by unfold smallL; exact ⟨h, by unfold smallL; trivial⟩
  | k :: ts, t, h, h2 => by
    unfold smallL at h
    show smallL (k :: (ts ++ [t]))
    unfold smallL
    exact ⟨h.1, small_snoc h.2 h2⟩
theorem keptL_snoc : ∀ (ts : List T) (t : T), keptL (ts ++ [t]) = keptL ts ++ keptN t
  | [], t => by show keptN t ++ [] = [] ++ keptN t; simp
  | k :: ts, t => by show keptN k ++ keptL (ts ++ [t]) = keptN k ++ keptL ts ++ keptN t; rw [keptL_snoc ts t, List.append_assoc]
theorem knotsL_snoc : ∀ (ts : List T) (t : T), knotsL (ts ++ [t]) = knotsL ts + knots t
  | [], t => by show knots t + 0 = 0 + knots t; omega
  | k :: ts, t => by show knots k + knotsL (ts ++ [t]) = knots k + knotsL ts + knots t; rw [knotsL_snoc ts t]; omega
theorem depthL_snoc : ∀ (ts : List T) (t : T), depthL (ts ++ [t]) = max (depthL ts) (depth t)
  | [], t => by show max (depth t) 0 = max 0 (depth t); omega
  | k :: ts, t => by show max (depth k) (depthL (ts ++ [t])) = max (max (depth k) (depthL ts)) (depth t); rw [depthL_snoc ts t]; omega
theorem bd_eq {w : Str} {l : List Bool} {b : Bool} (N : Node b w l) {i : Nat} (hi : i < 4) (o : Nat) : ((o : Int) + (if decide (V.int (0 + (i : Int)) = V.int (lbd w)) = true then 1 else 0)) = ((o + bdI w i : Nat) : Int) := by
  have q1 := lbd_bp w (shapeL_mem N.sh) i (List.mem_range.mpr hi)
  have q2 : decide (V.int (0 + (i : Int)) = V.int (lbd w)) = decide (i = bpN w) := by
    rw [← q1]
    refine decide_eq_decide.mpr ⟨fun e => ?_, fun e => ?_⟩
    · have := V.int.inj e
      omega
    · rw [← e]
      congr 1
      omega
  rw [q2]
  unfold bdI
  by_cases c : i = bpN w
  · rw [if_pos c, if_pos (decide_eq_true c)]
    rfl
  · rw [if_neg c, if_neg (by rw [decide_eq_false c]; exact Bool.false_ne_true)]
    rfl
theorem want_ch (b : Bool) : (⟨#[wantC b]⟩ : Str) = wantT b := by cases b <;> decide +kernel
def spThing (K : PySem.W.Frag) (d : Nat) : Sp := fun vs H Q _ => ∃ (a : Addr) (ns : List Int) (st : Addr) (b : Bool) (o p q : Nat), vs = [.ref a, .ref st, .str (wantT b), .int (d : Int), .int (o : Int)] ∧ (∀ H', Kp st H H' → SqL K H' a (ns.map V.int)) ∧
  H st = some (.lst [.int (p : Int), .int (q : Int)]) ∧ o + d ≤ 50 ∧ q ≤ 1000 ∧ p ≤ 1000 ∧
  ∀ (t : T) (y : V) (p' q' : Nat) (H' : Hp), Kp st H H' → H' st = some (.lst [.int (p' : Int), .int (q' : Int)]) → p + 1 ≤ p' → p' ≤ max (p + 1) (64 + 3 * d) → q' ≤ q → At H' t y → Gen b t o ((p' - p) + (q - q')) (d + 31) → Q y H'
def spThingLt (K : PySem.W.Frag) (lv : Nat) : Sp := fun vs H Q E => ∃ d, d < lv ∧ spThing K d vs H Q E
/-- what the loop over the parts keeps -/
structure Part5 (st lk : Addr) (H H' : Hp) (w : Str) (l : List Bool) (o d p q i : Nat) (ts : List T) (us : List V) (pi qi : Nat) : Prop where
  k : Kp st H H'
  st : H' st = some (.lst [.int (pi : Int), .int (qi : Int)])
  lk : H' lk = some (.lst us)
  at_ : AtL H' ts us
  len : ts.length = i
  wf : wfL (l.take i) ts
  gr : grL w ts 0 o ≤ 3
  sm : smallL ts
  kp : ∀ x ∈ keptL ts, x ∈ six
  kn : knotsL ts ≤ (pi - (p + 1)) + (q - qi)
  dp : depthL ts ≤ d + 31
  p1 : p + 1 ≤ pi
  p2 : pi ≤ 63 + 3 * d + i
  q1 : qi ≤ q
section
variable {P : Program} {w : World} {K : PySem.W.Frag} {mg : Str → Option Value} {base : Heap}
theorem Good.imp {x : Str} {ps : List Str} {k : Nat} {sp sp' : Sp} (G : Good P w K mg base k x ps sp) (h : ∀ vs H Q E, sp' vs H Q E → sp vs H Q E) : Good P w K mg base k x ps sp' := by
  obtain ⟨f, fd, F, r⟩ := G.ex
  exact ⟨f, fd, ⟨fun vs H Q E q => F.1 vs H Q E (h vs H Q E q), fun A outer s H args us vs Q E a b c d q => F.2 A outer s H args us vs Q E a b c d (h vs H Q E q)⟩, r⟩
abbrev n_law_thing : List Str := ["_law_script", "_law_state", "_law_want", "_law_deep_here", "_law_over", "_law_cell", "_law_forms", "_law_word", "_law_kids", "_law_k", "_law_under"]
theorem sc_law_thing : FnScope n_law_thing ["_law_script", "_law_state", "_law_want", "_law_deep_here", "_law_over"] (defScope s_law_thing) := ⟨rfl, rfl, rfl, by decide +kernel, rfl, by decide +kernel, by decide +kernel⟩
theorem ok_law_thing (D : Def K mg "_law_thing" s_law_thing ["_law_script", "_law_state", "_law_want", "_law_deep_here", "_law_over"]) (Z : Blt mg) (G_law_cell_at : Good P w K mg base 1 "_law_cell_at" ["_law_script", "_law_k"] (spCell K)) (G_law_shape : Good P w K mg base 1 "_law_shape" ["_law_word"] spLsh)
    (G_law_bound : Good P w K mg base 1 "_law_bound" ["_law_word"] spLbd) (G_law_leaf : Good P w K mg base 1 "_law_leaf" ["_law_cell", "_law_want", "_law_over", "_law_state"] spLeafL) (lv : Nat)
    (G_law_thing : Good P w K mg base (lv + 1) "_law_thing" ["_law_script", "_law_state", "_law_want", "_law_deep_here", "_law_over"] (spThingLt K lv)) : Good P w K mg base (lv + 2) "_law_thing" ["_law_script", "_law_state", "_law_want", "_law_deep_here", "_law_over"] (spThingLt K (lv + 1)) := by
  refine D.ok sc_law_thing (fun vs H Q E h => ?_) (fun cdv A outer s H vs Q E f hr h => ?_)
  · obtain ⟨n, hn, a, ns, st, b, o, p, q, rfl, _⟩ := h
    rfl
  obtain ⟨n, hn, a, ns, st, b, o, p, q, rfl, hscr, hst, ho, hq, hp, qq⟩ := h
  refine ⟨_, (pss_cons (ps_set (i := 5) sc_law_thing.nd rfl (Or.inl rfl) (gcall G_law_cell_at (hr.mono (by omega)) (pa_cons (pv 0) (pa_cons (pe_ix ix_list (pv 1) pe_int (fun _ _ => rfl)) pa_nil))))
    (pss_cons (ps_asg (pe_op op_add (pe_ix ix_list (pv 1) pe_int (fun _ _ => rfl)) pe_int) (pg_sub (pv 1) pe_int set_list))
    (pss_cons (ps_if (PW.pt (pw_or (pt_cmpR op_eq (pv 3) pe_int (nomark _)) (pw_or (pt_cmpR op_eq (pe_op op_mod (pv 5) pe_int) pe_int (nomark _)) (pw_or1 (pt_cmpR op_gt (pe_ix ix_list (pv 1) pe_int (fun _ _ => rfl)) pe_int (nomark _)))))) (pss_one (ps_ret (gcall G_law_leaf (hr.mono (by omega)) (pa_cons (pe_op op_fdiv (pv 5) pe_int) (pa_cons (pv 2) (pa_cons (pv 4) (pa_cons (pv 1) pa_nil))))))) pss_nil)
    (pss_cons (ps_set (i := 6) sc_law_thing.nd rfl (Or.inl rfl) (pe_lst (pa_cons pe_str (pa_cons pe_str (pa_cons pe_str (pa_cons pe_str (pa_cons pe_str (pa_cons pe_str (pa_cons pe_str (pa_cons pe_str (pa_cons pe_str (pa_cons pe_str pa_nil))))))))))))
    (pss_cons (ps_if (pt_cmpR op_eq (pv 2) pe_str (nomark _)) (pss_one (ps_set (i := 6) sc_law_thing.nd rfl (Or.inl rfl) (pe_lst (pa_cons pe_str (pa_cons pe_str (pa_cons pe_str pa_nil)))))) pss_nil)
    (pss_cons (ps_set (i := 7) sc_law_thing.nd rfl (Or.inl rfl) (pe_ix ix_list (pv 6) (pe_op op_mod (pe_op op_fdiv (pv 5) pe_int) (pe_callB call_len_seq (by rfl) Z.len (by decide +kernel) (pa_cons (pv 6) pa_nil))) (fun _ _ => rfl)))
    (pss_cons (ps_set (i := 8) sc_law_thing.nd rfl (Or.inl rfl) (pe_lst pa_nil))
    (pss_cons (ps_for PassesOwn.never rfl (pi_range1 (by rfl) Z.range (pa_cons (pe_callB call_len_str (by rfl) Z.len (by decide +kernel) (pa_cons (gcall G_law_shape (hr.mono (by omega)) (pa_cons (pv 7) pa_nil)) pa_nil)) pa_nil)) (pg_name (i := 9) sc_law_thing.nd rfl (Or.inl rfl)) (pss_cons (ps_set (i := 10) sc_law_thing.nd rfl (Or.inl rfl) (pe_op op_add (pv 4) (pe_callTy call_int1 (by rfl) Z.int (by decide +kernel) (pa_cons (pe_cmpR op_eq (pv 9) (gcall G_law_bound (hr.mono (by omega)) (pa_cons (pv 7) pa_nil)) (nomark _)) pa_nil))))
      (pss_one (ps_expr (pe_bm PySem.F.plainAttrs_list PySem.F.slot_list_append PySem.F.type_list_append mt_append (pv 8) (pa_cons (gcall G_law_thing (hr.mono (by omega)) (pa_cons (pv 0) (pa_cons (pv 1) (pa_cons (pe_ix ix_str (gcall G_law_shape (hr.mono (by omega)) (pa_cons (pv 7) pa_nil)) (pv 9) (fun _ _ => rfl)) (pa_cons (pe_op op_sub (pv 3) pe_int) (pa_cons (pv 10) pa_nil)))))) pa_nil))))))
    (pss_one (ps_ret (pe_op op_catT (pe_tup (pa_cons (pv 7) pa_nil)) (pe_callTy call_tuple_of (by rfl) Z.tuple (by decide +kernel) (pa_cons (pv 8) pa_nil))))))))))))), ?_⟩
  refine ⟨_, rfl, _, rfl, st, _, _, _, rfl, rfl, SqL.of hst, at0, a, ns, p, rfl, hscr H (Kp.refl _ _), ?_⟩
  refine ⟨_, rfl, st, _, _, _, rfl, rfl, SqL.of hst, at0, _, _, rfl, rfl, _, rfl, st, _, 0, 0, rfl, rfl, hst, rfl, ?_⟩
  generalize cell ns p = c
  have e1 : ([V.int (p : Int), V.int (q : Int)].set 0 (V.int ((p : Int) + 1))) = [V.int ((p + 1 : Nat) : Int), V.int (q : Int)] := rfl
  have k1 : Kp st H (upd H st (.lst ([V.int (p : Int), V.int (q : Int)].set 0 (V.int ((p : Int) + 1))))) := kp_upd
  have h1 : (upd H st (.lst ([V.int (p : Int), V.int (q : Int)].set 0 (V.int ((p : Int) + 1))))) st = some (.lst [V.int ((p + 1 : Nat) : Int), V.int (q : Int)]) := upd_same
  -- the leaf
  have leaf : ∀ (vs : List V) (E' : XK), vs = [V.int (c / 4), .str (wantT b), .int (o : Int), .ref st] → spLeafL vs (upd H st (.lst ([V.int (p : Int), V.int (q : Int)].set 0 (V.int ((p : Int) + 1))))) Q E' := by
    rintro vs E' rfl
    refine ⟨_, b, o, st, _, q, rfl, h1, by omega, hq, fun t y q' H' k2 h2 hq' hy g => ?_⟩
    exact qq t y (p + 1) q' H' (k1.trans k2) h2 (Nat.le_refl _) (by omega) hq' hy ⟨g.w, g.g, g.s, g.k, by have := g.kn; omega, by have := g.dp; omega⟩
  refine ⟨_, rfl, rfl, _, rfl, ite2 (fun c1 => iteT ?_) (fun c1 => ?_)⟩
  · exact ⟨_, rfl, _, _, rfl, rfl, ⟨by decide, by decide⟩, _, rfl, _, rfl, _, rfl, leaf _ E0 rfl⟩
  refine ⟨_, rfl, _, _, rfl, rfl, (by show (0 : Int) < 4; decide), rfl, _, rfl, ite2 (fun c2 => iteT ?_) (fun c2 => ?_)⟩
  · exact ⟨_, rfl, _, _, rfl, rfl, ⟨by decide, by decide⟩, _, rfl, _, rfl, _, rfl, leaf _ E0 rfl⟩
  refine ⟨_, rfl, st, _, _, _, rfl, rfl, SqL.of h1, at0, _, _, rfl, rfl, _, rfl, ite2 (fun c3 => ?_) (fun c3 => ?_)⟩
  · exact ⟨_, rfl, _, _, rfl, rfl, ⟨by decide, by decide⟩, _, rfl, _, rfl, _, rfl, leaf _ E0 rfl⟩
  have hp63 : p + 1 ≤ 63 := by
    have := of_decide_eq_false (Bool.eq_false_iff.mpr c3)
    omega
  have hn0 : n ≠ 0 := fun e => c1 (by subst e; exact decide_eq_true rfl)
  obtain ⟨d, rfl⟩ : ∃ d, n = d + 1 := ⟨n - 1, by omega⟩
  refine ⟨smallN (by show 10 ≤ 1000000; decide), fun lf hlf => ?_⟩
  have s2 := same_new hlf (.lst (termW.map V.str))
  have k2 := k1.trans s2.kp
  have h2 := s2 _ _ h1
  cases b with
  | true =>
    refine ⟨_, rfl, rfl, _, rfl, iteTc (by show decide (V.str "k" = V.str "k") = true; exact decide_eq_true rfl) ?_⟩
    refine ⟨smallN (by show 3 ≤ 1000000; decide), fun lf2 hlf2 => ?_⟩
    have s3 := same_new hlf2 (.lst (kindW.map V.str))
    have k3 := k2.trans s3.kp
    have h3 := s3 _ _ h2
    obtain ⟨m, hm, em⟩ : ∃ m : Nat, m < kindW.length ∧ c / 4 % ((kindW.map V.str).length : Int) = (m : Int) := ⟨(c / 4 % 3).toNat, by show _ < 3; omega, by show c / 4 % 3 = _; omega⟩
    refine ⟨_, rfl, _, rfl, _, _, rfl, rfl, ⟨by decide, by decide⟩, _, rfl, lf2, _, rfl, .inl (SqL.of upd_same), _, _, rfl, rfl, (by show (0 : Int) < 3; decide), lf2, _, _, .str kindW[m], rfl, rfl, SqL.of upd_same, ?_, ?_⟩
    · show atI (kindW.map V.str) (c / 4 % ((kindW.map V.str).length : Int)) = _
      rw [em]
      refine atI_nat ?_
      rw [List.getElem?_map, List.getElem?_eq_getElem hm]
      rfl
    obtain ⟨l, N⟩ := node_of (kind_node _ (List.getElem_mem hm))
    generalize kindW[m] = z at N
    refine ⟨Nat.zero_le _, fun lk hlk => ?_⟩
    have s4 := same_new hlk (.lst [])
    have k4 := k3.trans s4.kp
    have h4 := s4 _ _ h3
    have hlkH : H lk = none := by
      cases e : H lk with
      | none => rfl
      | some u =>
        have ne : lk ≠ st := (ne_of_none h3 hlk).symm
        have e3 := (k3 lk u ne e).symm.trans hlk
        cases e3
    have nls : lk ≠ st := fun e2 => by
      rw [e2, hst] at hlkH
      cases hlkH
    have hll : (lsh z).length = l.length := by rw [TL.len_tl, N.ls, List.length_map]
    have l4 := N.l4
    refine ⟨_, rfl, z, rfl, _, rfl, smallN (by omega), _, rfl, by omega, by omega, for_range (lo := 0) (fun i σ H' => ∃ (ts : List T) (us : List V) (pi qi : Nat) (x9 x10 : Option V), σ = [some (.ref a), some (.ref st), some (.str (wantT true)), some (.int ((d + 1 : Nat) : Int)), some (.int (o : Int)), some (.int c), some (.ref lf2), some (.str z), some (.ref lk), x9, x10] ∧
      Part5 st lk H H' z l o d p q i ts us pi qi) ⟨[], [], p + 1, q, none, none, rfl, k4, h4, upd_same, .nil, rfl, (by unfold wfL; trivial), (by show (-1 : Int) ≤ 3; decide), (by unfold smallL; trivial), (fun x hx => nomatch hx), Nat.zero_le _, Nat.zero_le _, Nat.le_refl _, by omega, Nat.le_refl _⟩ ?_ ?_⟩
    · rintro i σ H5 hi ⟨ts, us, pi, qi, x9, x10, rfl, I⟩
      rw [hll, Int.toNat_natCast] at hi
      have hlt : i < l.length := hi
      have hch : (lsh z).cps.toList[i]? = some (wantC l[i]) := by
        show (TL.tl (lsh z))[i]? = _
        rw [N.ls, List.getElem?_map, List.getElem?_eq_getElem hlt]
        rfl
      have I2 := I.p2
      have I3 := I.p1
      have I4 := I.q1
      have eul : us.length = i := by rw [I.at_.length, I.len]
      refine ⟨_, rfl, _, rfl, _, rfl, z, rfl, rfl, .inr ⟨_, rfl, _, _, rfl, rfl, ?_⟩⟩
      refine ⟨_, rfl, .inl ⟨rfl, _, SqL.of I.lk⟩, _, rfl, _, rfl, _, rfl, z, rfl, _, rfl, lsh z, _, wantC l[i], rfl, rfl, smallN (by omega), ?_, _, rfl, _, _, rfl, rfl, _, rfl, d, by omega, a, ns, st, l[i], o + bdI z i, pi, qi, ?_, fun H6 k6 => hscr H6 (I.k.trans k6), I.st, ?_, by omega, by omega, fun t y p' q' H6 k6 h6 hp1 hp2 hq6 hy g => ?_⟩
      · rw [show (0 + (i : Int)) = ((i : Nat) : Int) by omega]
        exact atI_nat hch
      · show [V.ref a, V.ref st, V.str ⟨#[wantC l[i]]⟩, V.int (((d + 1 : Nat) : Int) - 1), V.int ((o : Int) + (if decide (V.int (0 + (i : Int)) = V.int (lbd z)) = true then 1 else 0))] = _
        rw [bd_eq N (by omega), want_ch, show (((d + 1 : Nat) : Int) - 1) = (d : Int) by omega]
      · unfold bdI
        split <;> omega
      · have gk := g.kn
        have gd := g.dp
        have hlk6 : H6 lk = some (.lst us) := k6 _ _ nls I.lk
        refine ⟨lk, us, y, rfl, rfl, hlk6, smallLt (by omega), ts ++ [t], us ++ [y], p', q', _, _, rfl, ?_, ?_, upd_same, ?_, ?_, ?_, ?_, ?_, ?_, ?_, ?_, ?_, ?_, ?_⟩
        · exact fun c5 u5 n5 e5 => by
            have ne : c5 ≠ lk := ne_of_none e5 hlkH
            rw [upd_ne ne]
            exact k6 _ _ n5 (I.k _ _ n5 e5)
        · rw [upd_ne (Ne.symm nls)]
          exact h6
        · have tk6 : Tk H5 H6 := k6.tk I.st (by intro z e; cases e)
          have tk7 : Tk H6 (upd H6 lk (.lst (us ++ [y]))) := kp_upd.tk hlk6 (by intro z e; cases e)
          exact (I.at_.mono (tk6.trans tk7)).app (.cons (hy.mono tk7) .nil)
        · rw [List.length_append, List.length_singleton, I.len]
        · rw [List.take_add_one, List.getElem?_eq_getElem hlt]
          exact wfL_snoc I.wf g.w
        · refine grL_snoc z ts 0 o t I.gr ?_
          rw [Nat.zero_add, I.len]
          exact g.g
        · exact small_snoc I.sm g.s
        · intro x hx
          rw [keptL_snoc] at hx
          rcases List.mem_append.mp hx with h | h
          · exact I.kp x h
          · exact g.k x h
        · rw [knotsL_snoc]
          have := I.kn
          omega
        · rw [depthL_snoc]
          have := I.dp
          omega
        · omega
        · omega
        · omega
    · rintro σ H5 ⟨ts, us, pi, qi, x9, x10, rfl, I⟩
      rw [hll, Int.toNat_natCast] at I
      have eul : us.length = l.length := by rw [I.at_.length, I.len]
      refine ⟨_, rfl, smallN (by show 1 ≤ 1000000; decide), fun p1 hp1 => ⟨_, rfl, lk, us, rfl, .inl ⟨SqL.of ((same_new hp1 (.tup [V.str z])) _ _ I.lk), fun p2 hp2 => ?_⟩⟩⟩
      have s6 := same_new hp1 (.tup [V.str z])
      have s7 := same_new hp2 (.tup us)
      refine ⟨p1, p2, _, _, rfl, rfl, SqT.of (s7 _ _ upd_same), SqT.of upd_same, (by intro e; cases e), ?_, fun e => ?_, fun _ p3 hp3 => ?_⟩
      · show 1 + us.length ≤ sizeLine
        exact smallN (by omega)
      · rw [e] at eul
        have := N.l1
        have e9 : ([] : List V).length = 0 := rfl
        omega
      have s8 := same_new hp3 (.tup ([V.str z] ++ us))
      have S := (s6.trans s7).trans s8
      have wfe : wfL l ts := by
        have := I.wf
        rw [List.take_length] at this
        exact this
      have I2 := I.p2
      have I3 := I.p1
      have I4 := I.q1
      have I5 := I.kn
      have I6 := I.dp
      refine qq (.nd z ts) _ pi qi _ (I.k.trans S.kp) (S _ _ I.st) I3 (by omega) I4 (At.mk upd_same (I.at_.mono S.tk)) ⟨by unfold wf; exact ⟨N.kd, l, N.sh, wfe⟩, I.gr, by unfold small; exact I.sm, I.kp, ?_, ?_⟩
      · show 1 + knotsL ts ≤ _
        omega
      · show 1 + depthL ts ≤ _
        omega
  | false =>
    refine ⟨_, rfl, rfl, _, rfl, iteFc (by show decide (V.str "t" = V.str "k") = false; decide +kernel) ?_⟩
    obtain ⟨m, hm, em⟩ : ∃ m : Nat, m < termW.length ∧ c / 4 % ((termW.map V.str).length : Int) = (m : Int) := ⟨(c / 4 % 10).toNat, by show _ < 10; omega, by show c / 4 % 10 = _; omega⟩
    refine ⟨_, rfl, _, rfl, _, _, rfl, rfl, ⟨by decide, by decide⟩, _, rfl, lf, _, rfl, .inl (SqL.of upd_same), _, _, rfl, rfl, (by show (0 : Int) < 10; decide), lf, _, _, .str termW[m], rfl, rfl, SqL.of upd_same, ?_, ?_⟩
    · show atI (termW.map V.str) (c / 4 % ((termW.map V.str).length : Int)) = _
      rw [em]
      refine atI_nat ?_
      rw [List.getElem?_map, List.getElem?_eq_getElem hm]
      rfl
    obtain ⟨l, N⟩ := node_of (term_node _ (List.getElem_mem hm))
    generalize termW[m] = z at N
    refine ⟨Nat.zero_le _, fun lk hlk => ?_⟩
    have s4 := same_new hlk (.lst [])
    have k4 := k2.trans s4.kp
    have h4 := s4 _ _ h2
    have hlkH : H lk = none := by
      cases e : H lk with
      | none => rfl
      | some u =>
        have ne : lk ≠ st := (ne_of_none h2 hlk).symm
        have e3 := (k2 lk u ne e).symm.trans hlk
        cases e3
    have nls : lk ≠ st := fun e2 => by
      rw [e2, hst] at hlkH
      cases hlkH
    have hll : (lsh z).length = l.length := by rw [TL.len_tl, N.ls, List.length_map]
    have l4 := N.l4
    refine ⟨_, rfl, z, rfl, _, rfl, smallN (by omega), _, rfl, by omega, by omega, for_range (lo := 0) (fun i σ H' => ∃ (ts : List T) (us : List V) (pi qi : Nat) (x9 x10 : Option V), σ = [some (.ref a), some (.ref st), some (.str (wantT false)), some (.int ((d + 1 : Nat) : Int)), some (.int (o : Int)), some (.int c), some (.ref lf), some (.str z), some (.ref lk), x9, x10] ∧
      Part5 st lk H H' z l o d p q i ts us pi qi) ⟨[], [], p + 1, q, none, none, rfl, k4, h4, upd_same, .nil, rfl, (by unfold wfL; trivial), (by show (-1 : Int) ≤ 3; decide), (by unfold smallL; trivial), (fun x hx => nomatch hx), Nat.zero_le _, Nat.zero_le _, Nat.le_refl _, by omega, Nat.le_refl _⟩ ?_ ?_⟩
    · rintro i σ H5 hi ⟨ts, us, pi, qi, x9, x10, rfl, I⟩
      rw [hll, Int.toNat_natCast] at hi
      have hlt : i < l.length := hi
      have hch : (lsh z).cps.toList[i]? = some (wantC l[i]) := by
        show (TL.tl (lsh z))[i]? = _
        rw [N.ls, List.getElem?_map, List.getElem?_eq_getElem hlt]
        rfl
      have I2 := I.p2
      have I3 := I.p1
      have I4 := I.q1
      have eul : us.length = i := by rw [I.at_.length, I.len]
      refine ⟨_, rfl, _, rfl, _, rfl, z, rfl, rfl, .inr ⟨_, rfl, _, _, rfl, rfl, ?_⟩⟩
      refine ⟨_, rfl, .inl ⟨rfl, _, SqL.of I.lk⟩, _, rfl, _, rfl, _, rfl, z, rfl, _, rfl, lsh z, _, wantC l[i], rfl, rfl, smallN (by omega), ?_, _, rfl, _, _, rfl, rfl, _, rfl, d, by omega, a, ns, st, l[i], o + bdI z i, pi, qi, ?_, fun H6 k6 => hscr H6 (I.k.trans k6), I.st, ?_, by omega, by omega, fun t y p' q' H6 k6 h6 hp1 hp2 hq6 hy g => ?_⟩
      · rw [show (0 + (i : Int)) = ((i : Nat) : Int) by omega]
        exact atI_nat hch
      · show [V.ref a, V.ref st, V.str ⟨#[wantC l[i]]⟩, V.int (((d + 1 : Nat) : Int) - 1), V.int ((o : Int) + (if decide (V.int (0 + (i : Int)) = V.int (lbd z)) = true then 1 else 0))] = _
        rw [bd_eq N (by omega), want_ch, show (((d + 1 : Nat) : Int) - 1) = (d : Int) by omega]
      · unfold bdI
        split <;> omega
      · have gk := g.kn
        have gd := g.dp
        have hlk6 : H6 lk = some (.lst us) := k6 _ _ nls I.lk
        refine ⟨lk, us, y, rfl, rfl, hlk6, smallLt (by omega), ts ++ [t], us ++ [y], p', q', _, _, rfl, ?_, ?_, upd_same, ?_, ?_, ?_, ?_, ?_, ?_, ?_, ?_, ?_, ?_, ?_⟩
        · exact fun c5 u5 n5 e5 => by
            have ne : c5 ≠ lk := ne_of_none e5 hlkH
            rw [upd_ne ne]
            exact k6 _ _ n5 (I.k _ _ n5 e5)
        · rw [upd_ne (Ne.symm nls)]
          exact h6
        · have tk6 : Tk H5 H6 := k6.tk I.st (by intro z e; cases e)
          have tk7 : Tk H6 (upd H6 lk (.lst (us ++ [y]))) := kp_upd.tk hlk6 (by intro z e; cases e)
          exact (I.at_.mono (tk6.trans tk7)).app (.cons (hy.mono tk7) .nil)
        · rw [List.length_append, List.length_singleton, I.len]
        · rw [List.take_add_one, List.getElem?_eq_getElem hlt]
          exact wfL_snoc I.wf g.w
        · refine grL_snoc z ts 0 o t I.gr ?_
          rw [Nat.zero_add, I.len]
          exact g.g
        · exact small_snoc I.sm g.s
        · intro x hx
          rw [keptL_snoc] at hx
          rcases List.mem_append.mp hx with h | h
          · exact I.kp x h
          · exact g.k x h
        · rw [knotsL_snoc]
          have := I.kn
          omega
        · rw [depthL_snoc]
          have := I.dp
          omega
        · omega
        · omega
        · omega
    · rintro σ H5 ⟨ts, us, pi, qi, x9, x10, rfl, I⟩
      rw [hll, Int.toNat_natCast] at I
      have eul : us.length = l.length := by rw [I.at_.length, I.len]
      refine ⟨_, rfl, smallN (by show 1 ≤ 1000000; decide), fun p1 hp1 => ⟨_, rfl, lk, us, rfl, .inl ⟨SqL.of ((same_new hp1 (.tup [V.str z])) _ _ I.lk), fun p2 hp2 => ?_⟩⟩⟩
      have s6 := same_new hp1 (.tup [V.str z])
      have s7 := same_new hp2 (.tup us)
      refine ⟨p1, p2, _, _, rfl, rfl, SqT.of (s7 _ _ upd_same), SqT.of upd_same, (by intro e; cases e), ?_, fun e => ?_, fun _ p3 hp3 => ?_⟩
      · show 1 + us.length ≤ sizeLine
        exact smallN (by omega)
      · rw [e] at eul
        have := N.l1
        have e9 : ([] : List V).length = 0 := rfl
        omega
      have s8 := same_new hp3 (.tup ([V.str z] ++ us))
      have S := (s6.trans s7).trans s8
      have wfe : wfL l ts := by
        have := I.wf
        rw [List.take_length] at this
        exact this
      have I2 := I.p2
      have I3 := I.p1
      have I4 := I.q1
      have I5 := I.kn
      have I6 := I.dp
      refine qq (.nd z ts) _ pi qi _ (I.k.trans S.kp) (S _ _ I.st) I3 (by omega) I4 (At.mk upd_same (I.at_.mono S.tk)) ⟨by unfold wf; exact ⟨N.kd, l, N.sh, wfe⟩, I.gr, by unfold small; exact I.sm, I.kp, ?_, ?_⟩
      · show 1 + knotsL ts ≤ _
        omega
      · show 1 + depthL ts ≤ _
        omega
/-- every depth -/
theorem ok_law_things (D : Def K mg "_law_thing" s_law_thing ["_law_script", "_law_state", "_law_want", "_law_deep_here", "_law_over"]) (Z : Blt mg) (G_law_cell_at : Good P w K mg base 1 "_law_cell_at" ["_law_script", "_law_k"] (spCell K)) (G_law_shape : Good P w K mg base 1 "_law_shape" ["_law_word"] spLsh)
    (G_law_bound : Good P w K mg base 1 "_law_bound" ["_law_word"] spLbd) (G_law_leaf : Good P w K mg base 1 "_law_leaf" ["_law_cell", "_law_want", "_law_over", "_law_state"] spLeafL) :
    ∀ lv : Nat, Good P w K mg base (lv + 1) "_law_thing" ["_law_script", "_law_state", "_law_want", "_law_deep_here", "_law_over"] (spThingLt K lv)
  | 0 => Good.none D fun vs H Q E h => by
    obtain ⟨d, hd, _⟩ := h
    exact absurd hd (Nat.not_lt_zero d)
  | lv + 1 => ok_law_thing D Z G_law_cell_at G_law_shape G_law_bound G_law_leaf lv (ok_law_things D Z G_law_cell_at G_law_shape G_law_bound G_law_leaf lv)
end
end KP
set_option Elab.async false
set_option linter.all false
set_option maxRecDepth 100000
set_option maxHeartbeats 4000000
/-! KpLaw6: the thing grown, the names. -/
namespace KP
open PySem PySem.Spec PyProof.Rows L2
structure Big (b : Bool) (t : T) : Prop where
  w : wf b t
  g : gr t 0 ≤ 35
  s : small t
  k : ∀ w ∈ keptN t, w ∈ six
  kn : knots t ≤ 600
  dp : depth t ≤ 40
theorem app_wf : kindS "app" = false ∧ shapeL "app" = some [false, false] ∧ kindS "fun" = false ∧ shapeL "fun" = some [true, false] ∧ bdI "app" 0 = 0 ∧ bdI "app" 1 = 0 ∧ bdI "fun" 0 = 0 ∧ bdI "fun" 1 = 1 := by decide +kernel
def appT (t u : T) : T := .nd "app" [t, u]
def funT (t : T) : T := .nd "fun" [.nd "nat" [], t]
theorem app_wf2 {t u : T} (h : wf false t) (h2 : wf false u) : wf false (appT t u) := by
  unfold appT wf
  refine ⟨app_wf.1, _, app_wf.2.1, ?_⟩
  unfold wfL
  refine ⟨h, ?_⟩
  unfold wfL
  exact ⟨h2, by unfold wfL; trivial⟩
theorem nat_wf : wf true (.nd "nat" []) := by
  unfold wf
  exact ⟨zero_wf.2.2.2.2.1, _, zero_wf.2.2.2.2.2.1, by unfold wfL; trivial⟩
theorem fun_wf {t : T} (h : wf false t) : wf false (funT t) := by
  unfold funT wf
  refine ⟨app_wf.2.2.1, _, app_wf.2.2.2.1, ?_⟩
  unfold wfL
  refine ⟨nat_wf, ?_⟩
  unfold wfL
  exact ⟨h, by unfold wfL; trivial⟩
theorem app_gr {t u : T} {m : Int} (hm : -1 ≤ m) (h : gr t 0 ≤ m) (h2 : gr u 0 ≤ m) : gr (appT t u) 0 ≤ m := by
  show max (gr t (0 + bdI "app" 0)) (max (gr u (0 + bdI "app" 1)) (-1)) ≤ m
  rw [app_wf.2.2.2.2.1, app_wf.2.2.2.2.2.1]
  show max (gr t 0) (max (gr u 0) (-1)) ≤ m
  omega
theorem fun_gr {t : T} {m : Int} (hm : -1 ≤ m) (h : gr t 0 ≤ m) : gr (funT t) 0 ≤ m := by
  show max (gr (.nd "nat" []) (0 + bdI "fun" 0)) (max (gr t (0 + bdI "fun" 1)) (-1)) ≤ m
  rw [app_wf.2.2.2.2.2.2.2]
  have := gr_mono t 0 1 (by omega)
  show max (-1) (max (gr t 1) (-1)) ≤ m
  omega
theorem app_small {t u : T} (h : small t) (h2 : small u) : small (appT t u) := by
  unfold appT small smallL
  refine ⟨h, ?_⟩
  unfold smallL
  exact ⟨h2, by unfold smallL; trivial⟩
theorem fun_small {t : T} (h : small t) : small (funT t) := by
  unfold funT small smallL
  refine ⟨by unfold small smallL; trivial, ?_⟩
  unfold smallL
  exact ⟨h, by unfold smallL; trivial⟩
theorem app_kept (t u : T) : keptN (appT t u) = keptN t ++ (keptN u ++ []) := rfl
theorem fun_kept (t : T) : keptN (funT t) = [] ++ (keptN t ++ []) := rfl
theorem app_knots (t u : T) : knots (appT t u) = 1 + (knots t + (knots u + 0)) := rfl
theorem fun_knots (t : T) : knots (funT t) = 1 + (1 + 0 + (knots t + 0)) := rfl
theorem app_depth (t u : T) : depth (appT t u) = 1 + max (depth t) (max (depth u) 0) := rfl
theorem fun_depth (t : T) : depth (funT t) = 1 + max (1 + 0) (max (depth t) 0) := rfl
theorem depth_pos (t : T) : 1 ≤ depth t := by
  have := depth_rest t
  omega
def spMore : Sp := fun vs H Q _ => ∃ (t : T) (x : V) (b : Bool) (c : Int), vs = [x, .str (wantT b), .int c] ∧ At H t x ∧ Gen b t 0 300 36 ∧ ∀ (t' : T) (y : V) (H' : Hp), Same H H' → At H' t' y → Big b t' → Q y H'
section
variable {P : Program} {w : World} {K : PySem.W.Frag} {mg : Str → Option Value} {base : Heap}
abbrev n_law_more : List Str := ["_law_thing_here", "_law_want", "_law_cell", "_law_k"]
theorem sc_law_more : FnScope n_law_more ["_law_thing_here", "_law_want", "_law_cell"] (defScope s_law_more) := ⟨rfl, rfl, rfl, by decide +kernel, rfl, by decide +kernel, by decide +kernel⟩
theorem ok_law_more (D : Def K mg "_law_more" s_law_more ["_law_thing_here", "_law_want", "_law_cell"]) (Z : Blt mg) (G_law_knots : Good P w K mg base 41 "_law_knots" ["_law_thing_here"] (spKnotsL 40)) (G_law_deep : Good P w K mg base 41 "_law_deep" ["_law_thing_here"] (spDeepL 40)) :
    Good P w K mg base 42 "_law_more" ["_law_thing_here", "_law_want", "_law_cell"] spMore := by
  refine D.ok sc_law_more (fun vs H Q E h => ?_) (fun cdv A outer s H vs Q E f hr h => ?_)
  · obtain ⟨t, x, b, c, rfl, _⟩ := h
    rfl
  obtain ⟨t, x, b, c, rfl, hx, hg, qq⟩ := h
  have hg1 := hg.g
  have hg2 := hg.kn
  have hg3 := hg.dp
  have B : Big b t := ⟨hg.w, by omega, hg.s, hg.k, by omega, by omega⟩
  refine ⟨_, (pss_cons (ps_if (PW.pt (pw_and (pt_cmpR op_eq (pv 1) pe_str (nomark _)) (pw_and1 (pt_cmpR op_eq (pe_op op_mod (pv 2) pe_int) pe_int (nomark _))))) (pss_cons (ps_set (i := 0) sc_law_more.nd rfl (Or.inl rfl) (pe_tup (pa_cons pe_str (pa_cons (pv 0) (pa_cons (pe_tup (pa_cons pe_str (pa_cons (pe_op op_mod (pe_op op_fdiv (pv 2) pe_int) pe_int) pa_nil))) pa_nil)))))
      (pss_one (ps_for PassesOwn.never rfl (pi_range1 (by rfl) Z.range (pa_cons (pe_callB (call_min3 rfl) (by rfl) Z.min (by decide +kernel) (pa_cons (pe_op op_add pe_int (pe_op op_mod (pe_op op_fdiv (pv 2) pe_int) pe_int)) (pa_cons (pe_op op_sub pe_int (gcall G_law_deep (hr.mono (by omega)) (pa_cons (pv 0) pa_nil))) (pa_cons (pe_op op_fdiv (pe_op op_sub pe_int (gcall G_law_knots (hr.mono (by omega)) (pa_cons (pv 0) pa_nil))) pe_int) pa_nil)))) pa_nil)) (pg_name (i := 3) sc_law_more.nd rfl (Or.inl rfl)) (pss_one (ps_set (i := 0) sc_law_more.nd rfl (Or.inl rfl) (pe_tup (pa_cons pe_str (pa_cons (pe_tup (pa_cons pe_str pa_nil)) (pa_cons (pv 0) pa_nil))))))))) pss_nil)
    (pss_cons (ps_if (PW.pt (pw_and (pt_cmpR op_eq (pv 1) pe_str (nomark _)) (pw_and1 (pt_cmpR op_eq (pe_op op_mod (pv 2) pe_int) pe_int (nomark _))))) (pss_one (ps_for PassesOwn.never rfl (pi_range1 (by rfl) Z.range (pa_cons (pe_op op_mod (pe_op op_fdiv (pv 2) pe_int) pe_int) pa_nil)) (pg_name (i := 3) sc_law_more.nd rfl (Or.inl rfl)) (pss_one (ps_if (PW.pt (pw_and (pt_cmpR op_lt (gcall G_law_deep (hr.mono (by omega)) (pa_cons (pv 0) pa_nil)) pe_int (nomark _)) (pw_and1 (pt_cmpR op_le (gcall G_law_knots (hr.mono (by omega)) (pa_cons (pv 0) pa_nil)) pe_int (nomark _))))) (pss_one (ps_set (i := 0) sc_law_more.nd rfl (Or.inl rfl) (pe_tup (pa_cons pe_str (pa_cons (pv 0) (pa_cons (pv 0) pa_nil)))))) pss_nil)))) pss_nil)
    (pss_one (ps_ret (pv 0))))), ?_⟩
  cases b with
  | true =>
    refine ⟨_, rfl, rfl, _, rfl, iteFc (by show decide (V.str "k" = V.str "t") = false; decide +kernel) (iteF ?_)⟩
    refine ⟨_, rfl, rfl, _, rfl, iteFc (by show decide (V.str "k" = V.str "t") = false; decide +kernel) (iteF ?_)⟩
    exact ⟨_, rfl, qq t x H (Same.refl H) hx B⟩
  | false =>
    have ett : decide (V.str "t" = V.str "t") = true := decide_eq_true rfl
    refine ⟨_, rfl, rfl, _, rfl, iteTc ett ⟨_, rfl, _, _, rfl, rfl, (by show (0 : Int) < 5; decide), rfl, _, rfl, ite2 (fun c1 => ?_) (fun c1 => ?_)⟩⟩
    · have hc1 : c % 5 = 1 := V.int.inj (of_decide_eq_true c1)
      obtain ⟨m, hm, em⟩ : ∃ m : Nat, m < 36 ∧ c / 75 % 36 = (m : Int) := ⟨(c / 75 % 36).toNat, by omega, by omega⟩
      refine ⟨_, rfl, _, rfl, _, _, rfl, rfl, ⟨by decide, by decide⟩, _, _, rfl, rfl, (by show (0 : Int) < 36; decide), smallN (by show 2 ≤ 1000000; decide), fun p1 hp1 => ⟨smallN (by show 3 ≤ 1000000; decide), fun p2 hp2 => ?_⟩⟩
      have s1 := same_new hp1 (.tup [V.str "var", V.int (c / 75 % 36)])
      have s2 := same_new hp2 (.tup [V.str "app", x, V.ref p1])
      have S2 := s1.trans s2
      have hv : At (upd H p1 (.tup [V.str "var", V.int (c / 75 % 36)])) (.v m) (.ref p1) := by
        unfold At
        refine ⟨p1, rfl, ?_⟩
        rw [← em]
        exact upd_same
      have h2 : At (upd (upd H p1 (.tup [V.str "var", V.int (c / 75 % 36)])) p2 (.tup [V.str "app", x, V.ref p1])) (appT t (.v m)) (.ref p2) := At.mk (ks := [t, .v m]) upd_same (.cons (hx.mono S2.tk) (.cons (hv.mono s2.tk) .nil))
      have hB2 : wf false (appT t (.v m)) ∧ gr (appT t (.v m)) 0 ≤ 35 ∧ small (appT t (.v m)) ∧ (∀ w ∈ keptN (appT t (.v m)), w ∈ six) ∧ knots (appT t (.v m)) ≤ 302 ∧ depth (appT t (.v m)) ≤ 37 := by
        refine ⟨app_wf2 B.w (by unfold wf; rfl), app_gr (by omega) B.g (by show (m : Int) - ((0 : Nat) : Int) ≤ 35; omega), app_small B.s (by unfold small; omega), fun w hw => ?_, ?_, ?_⟩
        · rw [app_kept] at hw
          rcases List.mem_append.mp hw with h | h
          · exact B.k w h
          · cases h
        · rw [app_knots, show knots (.v m) = 1 from rfl]
          omega
        · rw [app_depth, show depth (.v m) = 1 from rfl]
          omega
      generalize appT t (.v m) = t2 at h2 hB2
      obtain ⟨b1, b2, b3, b4, b5, b6⟩ := hB2
      refine ⟨_, rfl, _, _, rfl, rfl, ⟨by decide, by decide⟩, _, _, rfl, rfl, (by show (0 : Int) < 15; decide), _, _, rfl, rfl, _, rfl, t2, _, rfl, h2, by omega, fun H3 s3 => ?_⟩
      refine ⟨_, _, rfl, rfl, _, rfl, t2, _, rfl, h2.mono s3.tk, by omega, fun H4 s4 => ?_⟩
      refine ⟨_, _, rfl, rfl, _, _, rfl, rfl, ⟨by decide, by decide⟩, _, _, _, rfl, _, rfl, ?_, ?_, ?_⟩
      · show _ ≤ min3 (20 + c / 5 % 15) (40 - (depth t2 : Int)) ((598 - (knots t2 : Int)) / 2)
        unfold min3
        omega
      · show min3 (20 + c / 5 % 15) (40 - (depth t2 : Int)) ((598 - (knots t2 : Int)) / 2) < _
        unfold min3
        omega
      have S4 := (S2.trans s3).trans s4
      refine for_range (lo := 0) (fun i σ H' => ∃ (t3 : T) (y : V) (xk : Option V), σ = [some y, some (.str (wantT false)), some (.int c), xk] ∧ Same H H' ∧ At H' t3 y ∧ wf false t3 ∧ gr t3 0 ≤ 35 ∧ small t3 ∧ (∀ w ∈ keptN t3, w ∈ six) ∧ knots t3 = knots t2 + 2 * i ∧ depth t3 = depth t2 + i)
        ⟨t2, _, none, rfl, S4, h2.mono (s3.trans s4).tk, b1, b2, b3, b4, rfl, rfl⟩ ?_ ?_
      · rintro i σ H5 hi ⟨t3, y, xk, rfl, s5, h5, d1, d2, d3, d4, d5, d6⟩
        refine ⟨smallN (by show 1 ≤ 1000000; decide), fun p3 hp3 => ⟨_, rfl, smallN (by show 3 ≤ 1000000; decide), fun p4 hp4 => ?_⟩⟩
        have s6 := same_new hp3 (.tup [V.str "nat"])
        have s7 := same_new hp4 (.tup [V.str "fun", V.ref p3, y])
        have hN : At (upd H5 p3 (.tup [V.str "nat"])) (.nd "nat" []) (.ref p3) := At.mk (ks := []) upd_same .nil
        have dp := depth_pos t3
        refine ⟨funT t3, .ref p4, _, rfl, s5.trans (s6.trans s7), At.mk (ks := [.nd "nat" [], t3]) upd_same (.cons (hN.mono s7.tk) (.cons (h5.mono (s6.trans s7).tk) .nil)), fun_wf d1, fun_gr (by omega) d2, fun_small d3, fun w hw => ?_, ?_, ?_⟩
        · rw [fun_kept] at hw
          rcases List.mem_append.mp hw with h | h
          · cases h
          · rcases List.mem_append.mp h with h | h
            · exact d4 w h
            · cases h
        · rw [fun_knots]
          omega
        · rw [fun_depth]
          omega
      · rintro σ H5 ⟨t3, y, xk, rfl, s5, h5, d1, d2, d3, d4, d5, d6⟩
        have hN : ((min3 (20 + c / 5 % 15) (40 - (depth t2 : Int)) ((598 - (knots t2 : Int)) / 2)).toNat : Int) = min3 (20 + c / 5 % 15) (40 - (depth t2 : Int)) ((598 - (knots t2 : Int)) / 2) := Int.toNat_of_nonneg (by unfold min3; omega)
        have hN2 : min3 (20 + c / 5 % 15) (40 - (depth t2 : Int)) ((598 - (knots t2 : Int)) / 2) ≤ 40 - (depth t2 : Int) ∧ min3 (20 + c / 5 % 15) (40 - (depth t2 : Int)) ((598 - (knots t2 : Int)) / 2) ≤ (598 - (knots t2 : Int)) / 2 := by unfold min3; omega
        have e5 : knots t3 = knots t2 + 2 * (min3 (20 + c / 5 % 15) (40 - (depth t2 : Int)) ((598 - (knots t2 : Int)) / 2)).toNat := d5
        have e6 : depth t3 = depth t2 + (min3 (20 + c / 5 % 15) (40 - (depth t2 : Int)) ((598 - (knots t2 : Int)) / 2)).toNat := d6
        refine ⟨_, rfl, rfl, _, rfl, iteTc ett ⟨_, rfl, _, _, rfl, rfl, (by show (0 : Int) < 5; decide), rfl, _, rfl, iteFc ?_ ?_⟩⟩
        · show decide (V.int (c % 5) = V.int 2) = false
          exact decide_eq_false fun e => by
            have := V.int.inj e
            omega
        · exact ⟨_, rfl, qq t3 y _ s5 h5 ⟨d1, d2, d3, d4, by omega, by omega⟩⟩
    · refine ⟨_, rfl, rfl, _, rfl, iteTc ett ⟨_, rfl, _, _, rfl, rfl, (by show (0 : Int) < 5; decide), rfl, _, rfl, ite2 (fun c2 => ?_) (fun c2 => ?_)⟩⟩
      · refine ⟨_, rfl, _, _, rfl, rfl, ⟨by decide, by decide⟩, _, _, rfl, rfl, (by show (0 : Int) < 4; decide), _, rfl, by omega, by omega, for_range (lo := 0) (fun i σ H' => ∃ (t3 : T) (y : V) (xk : Option V), σ = [some y, some (.str (wantT false)), some (.int c), xk] ∧ Same H H' ∧ At H' t3 y ∧ Big false t3) ⟨t, x, none, rfl, Same.refl H, hx, B⟩ ?_ ?_⟩
        · rintro i σ H5 hi ⟨t3, y, xk, rfl, s5, h5, B3⟩
          have k5 := B3.kn
          have d5 := B3.dp
          refine ⟨_, rfl, t3, _, rfl, h5, by omega, fun H6 s6 => ⟨_, _, rfl, rfl, _, rfl, ite2 (fun c3 => ?_) (fun c3 => ?_)⟩⟩
          · have l3 : depth t3 < 40 := by
              have := of_decide_eq_true c3
              omega
            refine ⟨_, rfl, t3, _, rfl, h5.mono s6.tk, by omega, fun H7 s7 => ⟨_, _, rfl, rfl, _, rfl, ite2 (fun c4 => ?_) (fun c4 => ?_)⟩⟩
            · have l4 : knots t3 ≤ 280 := by
                have := of_decide_eq_true c4
                omega
              refine ⟨_, rfl, _, rfl, smallN (by show 3 ≤ 1000000; decide), fun p4 hp4 => ?_⟩
              have s8 := same_new hp4 (.tup [V.str "app", y, y])
              have h8 := h5.mono ((s6.trans s7).trans s8).tk
              refine ⟨appT t3 t3, .ref p4, _, rfl, s5.trans ((s6.trans s7).trans s8), At.mk (ks := [t3, t3]) upd_same (.cons h8 (.cons h8 .nil)), app_wf2 B3.w B3.w, app_gr (by omega) B3.g B3.g, app_small B3.s B3.s, fun w hw => ?_, ?_, ?_⟩
              · rw [app_kept] at hw
                rcases List.mem_append.mp hw with h | h
                · exact B3.k w h
                · rcases List.mem_append.mp h with h | h
                  · exact B3.k w h
                  · cases h
              · rw [app_knots]
                omega
              · rw [app_depth]
                omega
            · exact ⟨t3, y, _, rfl, s5.trans (s6.trans s7), h5.mono (s6.trans s7).tk, B3⟩
          · exact iteF ⟨t3, y, _, rfl, s5.trans s6, h5.mono s6.tk, B3⟩
        · rintro σ H5 ⟨t3, y, xk, rfl, s5, h5, B3⟩
          exact ⟨_, rfl, qq t3 y _ s5 h5 B3⟩
      · exact ⟨_, rfl, qq t x H (Same.refl H) hx B⟩
end
end KP
set_option Elab.async false
set_option linter.all false
set_option maxRecDepth 100000
set_option maxHeartbeats 4000000
/-! KpLaw7: the names. -/
namespace KP
open PySem PySem.Spec PyProof.Rows L2
def words0 : List Str := (TL.tl letters).map (fun c => (⟨#[c]⟩ : Str)) ++ (TL.tl letters).map (fun c => ("a" : Str) ++ (⟨#[c]⟩ : Str))
def wordQ (k : Nat) : Str := ("q" : Str) ++ chOf (k % 26) ++ chOf (k / 26)
def wordsQ (m : Nat) : List Str := (List.range m).map wordQ
def namesL (m : Nat) (e : Int) (kept : List Str) : List Str := ((if e = 0 then words0 else wordsQ m).filter fun w => decide (w ∉ kept)).take m
theorem words0_ok : words0.Nodup ∧ (∀ w ∈ words0, nameS w = true) ∧ (words0.filter fun w => decide (w ∉ six)).length = 49 := by decide +kernel
theorem wordsQ_ok : ∀ m ∈ List.range 39, (wordsQ m).Nodup ∧ (∀ w ∈ wordsQ m, nameS w = true) ∧ (∀ w ∈ wordsQ m, w ∉ six) := by decide +kernel
theorem filter_le {kept : List Str} (h : ∀ w ∈ kept, w ∈ six) : ∀ l : List Str, (l.filter fun w => decide (w ∉ six)).length ≤ (l.filter fun w => decide (w ∉ kept)).length
  | [] => Nat.le_refl _
  | w :: l => by
    have ih := filter_le h l
    by_cases c : w ∈ six
    · rw [List.filter_cons_of_neg (by simpa using c)]
      by_cases c2 : w ∈ kept
      · rw [List.filter_cons_of_neg (by simpa using c2)]
        exact ih
      · rw [List.filter_cons_of_pos (by simpa using c2), List.length_cons]
        omega
    · rw [List.filter_cons_of_pos (by simpa using c), List.filter_cons_of_pos (by simpa using fun q => c (h w q)), List.length_cons, List.length_cons]
      omega
structure NamesOk (ns kept : List Str) (m : Nat) : Prop where
  len : ns.length = m
  nd : ns.Nodup
  nm : ∀ w ∈ ns, nameS w = true
  ap : ∀ w ∈ ns, w ∉ kept
theorem names_ok {m : Nat} (e : Int) {kept : List Str} (hm : m ≤ 38) (h : ∀ w ∈ kept, w ∈ six) : NamesOk (namesL m e kept) kept m := by
  have hap : ∀ w ∈ namesL m e kept, w ∉ kept := fun w hw => by
    have := List.mem_of_mem_take hw
    exact of_decide_eq_true (List.mem_filter.mp this).2
  have hin : ∀ w ∈ namesL m e kept, w ∈ (if e = 0 then words0 else wordsQ m) := fun w hw => (List.mem_filter.mp (List.mem_of_mem_take hw)).1
  have q := wordsQ_ok m (List.mem_range.mpr (by omega))
  by_cases c : e = 0
  · rw [if_pos c] at hin
    refine ⟨?_, ?_, fun w hw => words0_ok.2.1 w (hin w hw), hap⟩
    · unfold namesL
      rw [if_pos c, List.length_take]
      have h1 := filter_le h words0
      rw [words0_ok.2.2] at h1
      omega
    · unfold namesL
      rw [if_pos c]
      exact ((words0_ok.1.filter _).sublist (List.take_sublist _ _))
  · rw [if_neg c] at hin
    refine ⟨?_, ?_, fun w hw => q.2.1 w (hin w hw), hap⟩
    · unfold namesL
      have e9 : (wordsQ m).filter (fun w => decide (w ∉ kept)) = wordsQ m := List.filter_eq_self.mpr fun w hw => decide_eq_true (p := ¬ w ∈ kept) fun hk => q.2.2 w hw (h w hk)
      rw [if_neg c, List.length_take, e9]
      unfold wordsQ
      rw [List.length_map, List.length_range]
      omega
    · unfold namesL
      rw [if_neg c]
      exact ((q.1.filter _).sublist (List.take_sublist _ _))
theorem cutTake (vs : List V) (m : Nat) : cutV vs none (some (m : Int)) = vs.take m := by
  unfold cutV
  rw [HT.sIx_nat]
  have e2 : HT.sIx vs.length 0 none = 0 := rfl
  rw [e2, Nat.sub_zero]
  show (vs.drop 0).take _ = _
  rw [List.drop_zero]
  by_cases h : m ≤ vs.length
  · rw [Nat.min_eq_left h]
  · rw [Nat.min_eq_right (by omega), List.take_of_length_le (Nat.le_refl _), List.take_of_length_le (by omega)]
def spNamesL : Sp := fun vs H Q _ => ∃ (m : Nat) (e : Int) (kd : Addr) (kept : List Str), vs = [.int (m : Int), .int e, .ref kd] ∧ m ≤ 38 ∧ Lst H kd kept ∧ ∀ (l : Addr) (H' : Hp), Same H H' → H l = none → Lst H' l (namesL m e kept) → Q (.ref l) H'
section
variable {P : Program} {w : World} {K : PySem.W.Frag} {mg : Str → Option Value} {base : Heap}
abbrev n_law_names : List Str := ["_law_many", "_law_far", "_law_kept_here", "_law_some", "_law_words", "_law_k", "_law_word", "_law_sign"]
theorem sc_law_names : FnScope n_law_names ["_law_many", "_law_far", "_law_kept_here"] (defScope s_law_names) := ⟨rfl, rfl, rfl, by decide +kernel, rfl, by decide +kernel, by decide +kernel⟩
theorem ok_law_names (D : Def K mg "_law_names" s_law_names ["_law_many", "_law_far", "_law_kept_here"]) (Z : Blt mg) : Good P w K mg base 1 "_law_names" ["_law_many", "_law_far", "_law_kept_here"] spNamesL := by
  refine D.ok sc_law_names (fun vs H Q E h => ?_) (fun cdv A outer s H vs Q E f hr h => ?_)
  · obtain ⟨m, e, kd, kept, rfl, _⟩ := h
    rfl
  obtain ⟨m, e, kd, kept, rfl, hm, hk, qq⟩ := h
  refine ⟨_, (pss_cons (ps_set (i := 3) sc_law_names.nd rfl (Or.inr rfl) pe_str)
    (pss_cons (ps_setLc (i := 4) (own := [("_law_k", 5)]) (g := gName 5) (tt := tYes) rfl sc_law_names.nd rfl rfl (sw_true rfl rfl rfl (by decide +kernel)) (pi_range1 (by rfl) Z.range (pa_cons (pv 0) pa_nil)) (blkOk_by (N := n_law_names) (sc := defScope s_law_names) (by decide +kernel)) (fun _ _ _ _ _ => pg_name (i := 5) sc_law_names.nd rfl (Or.inl rfl)) (fun _ _ _ _ _ => pts_nil) (fun _ _ _ _ _ => (pe_op op_add_str (pe_op op_add_str pe_str (pe_ix ix_str (pv 3) (pe_op op_mod (pv 5) pe_int) (fun _ _ => rfl))) (pe_ix ix_str (pv 3) (pe_op op_fdiv (pv 5) pe_int) (fun _ _ => rfl)))))
    (pss_cons (ps_if (pt_cmpR op_eq (pv 1) pe_int (nomark _)) (pss_one (ps_set (i := 4) sc_law_names.nd rfl (Or.inl rfl) (pe_op op_cat (pe_lc (own := [("_law_sign", 7)]) (g := gName 7) (tt := tYes) rfl sc_law_names.nd (pi_str (pv 3)) (blkOk_by (N := n_law_names) (sc := defScope s_law_names) (by decide +kernel)) (fun _ _ _ _ _ => pg_name (i := 7) sc_law_names.nd rfl (Or.inl rfl)) (fun _ _ _ _ _ => pts_nil) (fun _ _ _ _ _ => (pv 7))) (pe_lc (own := [("_law_sign", 7)]) (g := gName 7) (tt := tYes) rfl sc_law_names.nd (pi_str (pv 3)) (blkOk_by (N := n_law_names) (sc := defScope s_law_names) (by decide +kernel)) (fun _ _ _ _ _ => pg_name (i := 7) sc_law_names.nd rfl (Or.inl rfl)) (fun _ _ _ _ _ => pts_nil) (fun _ _ _ _ _ => (pe_op op_add_str pe_str (pv 7))))))) pss_nil)
    (pss_one (ps_ret (pe_slice sl_list (pe_lc (own := [("_law_word", 6)]) (g := gName 6) (tt := tTest (tOp (rIn K true) (tVar 6) (tVar 2))) rfl sc_law_names.nd (pi_list (pv 4)) (blkOk_by (N := n_law_names) (sc := defScope s_law_names) (by decide +kernel)) (fun _ _ _ _ _ => pg_name (i := 6) sc_law_names.nd rfl (Or.inl rfl)) (fun _ _ _ _ _ => (pts_one (pt_cmpR op_notIn_seq (pv 6) (pv 2) (by rfl)))) (fun _ _ _ _ _ => (pv 6))) po_none (po_some (pv 0)))))))), ?_⟩
  have l26 : (TL.tl letters).length = 26 := by decide +kernel
  have ll : letters.length ≤ sizeLine := smallN (by rw [TL.len_tl, l26]; decide)
  have at_ : ∀ {j : Nat}, j < 26 → atI letters.cps.toList ((j : Nat) : Int) = some ((TL.tl letters).getD j 0) := fun {j} hj => by
    refine atI_nat ?_
    show (TL.tl letters)[j]? = _
    rw [List.getD_eq_getElem?_getD, List.getElem?_eq_getElem (by rw [l26]; exact hj)]
    rfl
  refine ⟨_, rfl, _, rfl, by omega, by omega, fun D1 hD1 => lc_range (lo := 0) (fun i H' => Same H H' ∧ Lst H' D1 (wordsQ i)) ⟨same_new hD1 _, upd_same⟩ ?_ ?_⟩
  · rintro i H1 hi ⟨s1, h1⟩
    rw [Int.toNat_natCast] at hi
    have c1 : (0 + (i : Int)) % 26 = ((i % 26 : Nat) : Int) := by omega
    have c2 : (0 + (i : Int)) / 26 = ((i / 26 : Nat) : Int) := by omega
    refine ⟨rfl, _, rfl, _, rfl, _, _, rfl, rfl, (by show (0 : Int) < 26; decide), letters, _, _, rfl, rfl, ll, by rw [c1]; exact at_ (by omega), _, _, rfl, rfl, ?_, _, rfl, _, rfl, _, _, rfl, rfl, ⟨by decide, by decide⟩, letters, _, _, rfl, rfl, ll, by rw [c2]; exact at_ (by omega), _, _, rfl, rfl, ?_, _, h1, ?_, ?_, ?_⟩
    · show ("q" : Str).length + 1 ≤ sizeLine
      exact smallN (by decide +kernel)
    · show (("q" : Str) ++ (⟨#[_]⟩ : Str)).length + 1 ≤ sizeLine
      rw [len_app]
      show ("q" : Str).length + 1 + 1 ≤ sizeLine
      exact smallN (by decide +kernel)
    · rw [List.length_map]
      unfold wordsQ
      rw [List.length_map, List.length_range]
      exact smallLt (by omega)
    · exact fun c o hc => by
        rw [upd_ne (ne_of_none hc hD1)]
        exact s1 _ _ hc
    · show upd H1 D1 _ D1 = _
      rw [upd_same]
      unfold wordsQ
      rw [List.range_succ, List.map_append, List.map_append]
      rfl
  · rintro H1 ⟨s1, h1⟩
    rw [Int.toNat_natCast] at h1
    refine ⟨_, rfl, rfl, _, rfl, ite2 (fun c => ?_) (fun c => ?_)⟩
    · have ce : e = 0 := V.int.inj (of_decide_eq_true c)
      refine ⟨_, rfl, letters, rfl, fun D2 hD2 => lc_it walk_str (fun i H' => Same H1 H' ∧ H' D2 = some (.lst (((TL.tl letters).take i).map fun c => V.str ⟨#[c]⟩))) ⟨same_new hD2 _, upd_same⟩ (fun _ _ _ _ => trivial) ?_ ?_⟩
      · rintro i x H3 H4 hi ⟨s3, h3⟩ ⟨rfl, ch, hch, rfl⟩
        have hc2 : (TL.tl letters)[i]? = some ch := by rw [Array.getElem?_toList]; exact hch
        have hil := (List.getElem?_eq_some_iff.mp hc2).1
        refine ⟨rfl, _, rfl, _, h3, smallLt (by rw [List.length_map, List.length_take, l26]; omega), fun c o hc => ?_, ?_⟩
        · rw [upd_ne (ne_of_none hc hD2)]
          exact s3 _ _ hc
        · rw [upd_same, List.take_add_one, hc2, List.map_append]
          rfl
      · rintro H3 ⟨s3, h3⟩
        have h3' : H3 D2 = some (.lst ((TL.tl letters).map fun c => V.str ⟨#[c]⟩)) := by
          rw [h3, List.take_of_length_le (by rw [l26]; decide +kernel)]
        refine ⟨_, rfl, letters, rfl, fun D3 hD3 => lc_it walk_str (fun i H' => Same H3 H' ∧ H' D3 = some (.lst (((TL.tl letters).take i).map fun c => V.str (("a" : Str) ++ (⟨#[c]⟩ : Str))))) ⟨same_new hD3 _, upd_same⟩ (fun _ _ _ _ => trivial) ?_ ?_⟩
        · rintro i x H5 H6 hi ⟨s5, h5⟩ ⟨rfl, ch, hch, rfl⟩
          have hc2 : (TL.tl letters)[i]? = some ch := by rw [Array.getElem?_toList]; exact hch
          have hil := (List.getElem?_eq_some_iff.mp hc2).1
          refine ⟨rfl, _, rfl, _, _, rfl, rfl, ?_, _, h5, smallLt (by rw [List.length_map, List.length_take, l26]; omega), fun c o hc => ?_, ?_⟩
          · show ("a" : Str).length + 1 ≤ sizeLine
            exact smallN (by decide +kernel)
          · rw [upd_ne (ne_of_none hc hD3)]
            exact s5 _ _ hc
          · rw [upd_same, List.take_add_one, hc2, List.map_append]
            rfl
        · rintro H5 ⟨s5, h5⟩
          have h5' : H5 D3 = some (.lst ((TL.tl letters).map fun c => V.str (("a" : Str) ++ (⟨#[c]⟩ : Str)))) := by
            rw [h5, List.take_of_length_le (by rw [l26]; decide +kernel)]
          refine ⟨D2, D3, _, _, rfl, rfl, s5 _ _ h3', h5', smallN (by rw [List.length_map, List.length_map, l26]; decide), fun W hW => ?_⟩
          have S5 := s1.trans (s3.trans s5)
          have S6 := S5.trans (same_new hW (.lst (((TL.tl letters).map fun c => V.str ⟨#[c]⟩) ++ ((TL.tl letters).map fun c => V.str (("a" : Str) ++ (⟨#[c]⟩ : Str))))))
          have h6 : Lst (upd H5 W (.lst (((TL.tl letters).map fun c => V.str ⟨#[c]⟩) ++ ((TL.tl letters).map fun c => V.str (("a" : Str) ++ (⟨#[c]⟩ : Str)))))) W words0 := by
            show upd H5 W _ W = _
            rw [upd_same]
            unfold words0
            rw [List.map_append, List.map_map, List.map_map]
            rfl
          have w0 : words0.length ≤ 1000 := by decide +kernel
          refine ⟨_, rfl, W, rfl, ⟨_, SqL.of h6⟩, fun D9 hD9 => lc_list (K := K) (a := W) (xs := words0.map V.str) (fun i H' => Same _ H' ∧ Lst H' D9 ((words0.take i).filter fun w => decide (w ∉ kept))) ⟨same_new hD9 _, upd_same⟩ ?_ ?_ ?_⟩
          · rintro i H7 _ ⟨s7, _⟩
            exact SqL.of (s7 _ _ h6)
          · rintro i x H7 hx ⟨s7, h7⟩
            rw [List.getElem?_map] at hx
            obtain ⟨w, hw, rfl⟩ := Option.map_eq_some_iff.mp hx
            have hil : i < words0.length := (List.getElem?_eq_some_iff.mp hw).1
            have hkk : H7 kd = some (.lst (kept.map V.str)) := s7 _ _ (S6 _ _ hk)
            refine ⟨rfl, _, rfl, _, rfl, kd, _, rfl, .inl (SqL.of hkk), rfl, flat_str _, _, rfl, ?_⟩
            have eb : (!inV (V.str w) (kept.map V.str)) = decide (w ∉ kept) := by
              rw [inV_str]
              exact (decide_not (p := w ∈ kept)).symm
            show if (!inV (V.str w) (kept.map V.str)) = true then _ else _
            rw [eb]
            by_cases c9 : w ∉ kept
            · rw [if_pos (decide_eq_true c9)]
              refine ⟨_, rfl, _, h7, smallLt ?_, ?_, ?_⟩
              · rw [List.length_map]
                have h9 := List.length_filter_le (fun w => decide (w ∉ kept)) (words0.take i)
                have h10 := List.length_take_le i words0
                have h11 := w0
                omega
              · exact fun c o hc => by
                  rw [upd_ne (ne_of_none hc hD9)]
                  exact s7 _ _ hc
              · show upd H7 D9 _ D9 = _
                rw [upd_same, List.take_add_one, hw, List.filter_append, List.map_append]
                show some (HO.lst (_ ++ [V.str w])) = some (HO.lst (_ ++ ([w].filter fun w => decide (w ∉ kept)).map V.str))
                rw [List.filter_cons_of_pos (by simpa using c9)]
                rfl
            · rw [if_neg (by rw [decide_eq_false c9]; exact Bool.false_ne_true)]
              refine ⟨s7, ?_⟩
              show H7 D9 = _
              rw [show H7 D9 = _ from h7, List.take_add_one, hw, List.filter_append, List.map_append]
              show _ = some (HO.lst (_ ++ ([w].filter fun w => decide (w ∉ kept)).map V.str))
              rw [List.filter_cons_of_neg (by simpa using c9)]
              show _ = some (HO.lst (_ ++ []))
              rw [List.append_nil]
          · rintro H7 ⟨s7, h7⟩
            rw [List.length_map, List.take_of_length_le (Nat.le_refl _)] at h7
            refine ⟨_, rfl, (m : Int), rfl, D9, _, rfl, SqL.of h7, fun p hp => ?_⟩
            rw [cutTake, ← List.map_take]
            have s8 := same_new hp (.lst (((words0.filter fun w => decide (w ∉ kept)).take m).map V.str))
            refine qq p _ (S6.trans (s7.trans s8)) ((S6.trans s7).free hp) ?_
            show upd _ p _ p = some (.lst ((namesL m e kept).map V.str))
            unfold namesL
            rw [upd_same, if_pos ce]
    · have ce : e ≠ 0 := fun ce => c (decide_eq_true (by rw [ce]))
      have wq : (wordsQ m).length ≤ 1000 := by
        unfold wordsQ
        rw [List.length_map, List.length_range]
        omega
      refine ⟨_, rfl, D1, rfl, ⟨_, SqL.of h1⟩, fun D9 hD9 => lc_list (K := K) (a := D1) (xs := (wordsQ m).map V.str) (fun i H' => Same H1 H' ∧ Lst H' D9 (((wordsQ m).take i).filter fun w => decide (w ∉ kept))) ⟨same_new hD9 _, upd_same⟩ ?_ ?_ ?_⟩
      · rintro i H7 _ ⟨s7, _⟩
        exact SqL.of (s7 _ _ h1)
      · rintro i x H7 hx ⟨s7, h7⟩
        rw [List.getElem?_map] at hx
        obtain ⟨w, hw, rfl⟩ := Option.map_eq_some_iff.mp hx
        have hil : i < (wordsQ m).length := (List.getElem?_eq_some_iff.mp hw).1
        have hkk : H7 kd = some (.lst (kept.map V.str)) := s7 _ _ (s1 _ _ hk)
        refine ⟨rfl, _, rfl, _, rfl, kd, _, rfl, .inl (SqL.of hkk), rfl, flat_str _, _, rfl, ?_⟩
        have eb : (!inV (V.str w) (kept.map V.str)) = decide (w ∉ kept) := by
          rw [inV_str]
          exact (decide_not (p := w ∈ kept)).symm
        show if (!inV (V.str w) (kept.map V.str)) = true then _ else _
        rw [eb]
        by_cases c9 : w ∉ kept
        · rw [if_pos (decide_eq_true c9)]
          refine ⟨_, rfl, _, h7, smallLt ?_, ?_, ?_⟩
          · rw [List.length_map]
            have h9 := List.length_filter_le (fun w => decide (w ∉ kept)) ((wordsQ m).take i)
            have h10 := List.length_take_le i (wordsQ m)
            have h11 := wq
            omega
          · exact fun c o hc => by
              rw [upd_ne (ne_of_none hc hD9)]
              exact s7 _ _ hc
          · show upd H7 D9 _ D9 = _
            rw [upd_same, List.take_add_one, hw, List.filter_append, List.map_append]
            show some (HO.lst (_ ++ [V.str w])) = some (HO.lst (_ ++ ([w].filter fun w => decide (w ∉ kept)).map V.str))
            rw [List.filter_cons_of_pos (by simpa using c9)]
            rfl
        · rw [if_neg (by rw [decide_eq_false c9]; exact Bool.false_ne_true)]
          refine ⟨s7, ?_⟩
          show H7 D9 = _
          rw [show H7 D9 = _ from h7, List.take_add_one, hw, List.filter_append, List.map_append]
          show _ = some (HO.lst (_ ++ ([w].filter fun w => decide (w ∉ kept)).map V.str))
          rw [List.filter_cons_of_neg (by simpa using c9)]
          show _ = some (HO.lst (_ ++ []))
          rw [List.append_nil]
      · rintro H7 ⟨s7, h7⟩
        rw [List.length_map, List.take_of_length_le (Nat.le_refl _)] at h7
        refine ⟨_, rfl, (m : Int), rfl, D9, _, rfl, SqL.of h7, fun p hp => ?_⟩
        rw [cutTake, ← List.map_take]
        have s8 := same_new hp (.lst ((((wordsQ m).filter fun w => decide (w ∉ kept)).take m).map V.str))
        refine qq p _ (s1.trans (s7.trans s8)) ((s1.trans s7).free hp) ?_
        show upd _ p _ p = some (.lst ((namesL m e kept).map V.str))
        unfold namesL
        rw [upd_same, if_neg ce]
end
end KP
set_option Elab.async false
set_option linter.all false
set_option maxRecDepth 100000
set_option maxHeartbeats 4000000
/-! KpLaw8: the law. -/
namespace KP
open PySem PySem.Spec PyProof.Rows L2
theorem sql_kept {K : PySem.W.Frag} {H H' : Hp} {a : Addr} {xs : List V} (h : SqL K H a xs) (e : ∀ o, H a = some o → H' a = some o) : SqL K H' a xs :=
  h.elim (fun h => .inl (h.elim (fun h => .inl (e _ h)) fun ⟨o, h⟩ => .inr ⟨o, e _ h⟩)) fun h => .inr h
theorem gr_ge0 (t : T) : -1 ≤ gr t 0 := by
  cases t with
  | v k => show -1 ≤ (k : Int) - ((0 : Nat) : Int); omega
  | nm z => show (-1 : Int) ≤ -1; omega
  | nd z ks => exact grL_ge z ks 0 0
theorem Big.ok {b : Bool} {t : T} (B : Big b t) {ns : List Str} {m : Nat} (N : NamesOk ns (keptN t) m) (hm : m ≤ 38) (hg : gr t 0 < (m : Int)) : OkT b t ns := by
  have hd := B.dp
  refine ⟨B.w, gr_below t 0 m _ hg (by rw [N.len]; omega), B.s, B.kn, B.dp, N.nd, N.nm, fun w hw hk => ?_, fun w hw => ?_, by rw [N.len]; omega⟩
  · rcases (told_mem t [] w).mp hk with h | h
    · exact N.ap w hw h
    · cases h
  · rcases (told_mem t [] w).mp hw with h | h
    · exact B.k w h
    · cases h
/-- the thing that is always read too -/
def oneT : T := funT (appT (.v 0) (.v 1))
theorem one_ok : OkT false oneT ["b"] := by
  have v0 : ∀ k, wf false (.v k) := fun k => by unfold wf; rfl
  have hk : told oneT [] = [] := by decide +kernel
  refine ⟨fun_wf (app_wf2 (v0 0) (v0 1)), gr_below oneT 0 1 _ (by decide +kernel) rfl, fun_small (app_small (by unfold small; omega) (by unfold small; omega)), by decide +kernel, by decide +kernel, ?_⟩
  rw [hk]
  exact ⟨List.nodup_cons.mpr ⟨(fun h => nomatch h), .nil⟩, (by decide +kernel), (fun w _ h => nomatch h), (fun w h => nomatch h), by decide +kernel⟩
theorem eqv_self {b : Bool} {t : T} (w : wf b t) : PyData.eqv (pd t) (pd t) = true := SeqAt.eqv_refl _ (pd_lay t b w)
def spLaw (K : PySem.W.Frag) : Sp := fun vs H Q _ => ∃ (a : Addr) (ns : List Int), vs = [.ref a] ∧ SqL K H a (ns.map V.int) ∧ ∀ H', Q (.bl true) H'
section
variable {P : Program} {w : World} {K : PySem.W.Frag} {mg : Str → Option Value} {base : Heap}
abbrev n_law : List Str := ["_law_script", "_law_want", "_law_thing_here", "_law_many", "_law_kept_here", "_law_names_here", "_law_line", "_law_other", "_law_far"]
theorem sc_law : FnScope n_law ["_law_script"] (defScope s_law) := ⟨rfl, rfl, rfl, by decide +kernel, rfl, by decide +kernel, by decide +kernel⟩
theorem ok_law {f0 : Addr} {fd0 : FuncData} (F : FunD K "law" "law" (defArgs s_law) (defBody s_law) (defScope s_law) [] [] f0 fd0) (Z : Blt mg) (G_law_cell_at : Good P w K mg base 1 "_law_cell_at" ["_law_script", "_law_k"] (spCell K)) (G_law_thing : Good P w K mg base 7 "_law_thing" ["_law_script", "_law_state", "_law_want", "_law_deep_here", "_law_over"] (spThingLt K 6))
    (G_law_more : Good P w K mg base 42 "_law_more" ["_law_thing_here", "_law_want", "_law_cell"] spMore) (G_law_greatest : Good P w K mg base 42 "_law_greatest" ["_law_thing_here", "_law_over"] (spGreat 40)) (G_law_kept : Good P w K mg base 41 "_law_kept" ["_law_thing_here", "_law_found"] (spKeptL 40))
    (G_law_names : Good P w K mg base 1 "_law_names" ["_law_many", "_law_far", "_law_kept_here"] spNamesL) (G_shown : Good P w K mg base 87 "shown" ["thing", "names"] spShown) (G_law_read : Good P w K mg base 10 "_law_read" ["_law_line", "_law_want", "_law_names_here"] spLRead)
    (G_read_term : Good P w K mg base 9 "read_term" ["text", "names"] (spReadB false)) : FnOk P w K mg base CX0 88 f0 fd0 ["_law_script"] (spLaw K) := by
  refine F.ok sc_law (fun vs H Q E h => ?_) (fun cdv A outer s H vs Q E hr h => ?_)
  · obtain ⟨a, ns, rfl, _⟩ := h
    rfl
  obtain ⟨a, ns, rfl, ha, qq⟩ := h
  suffices hh : ∃ t, PSs (cxOf CX0 P w K mg base n_law "law" (defScope s_law) f0 cdv A outer s H E).nox (defBody s_law) t ∧ t { nx := fun _ H' => Q .non H', rt := Q } (L2.start n_law [V.ref a]) H by
    obtain ⟨t, h1, h2⟩ := hh
    exact ⟨t, h1.nox, h2⟩
  refine ⟨_, (pss_cons (ps_set (i := 1) sc_law.nd rfl (Or.inl rfl) (pe_ix ix_list (pe_lst (pa_cons pe_str (pa_cons pe_str pa_nil))) (pe_op op_mod (gcall G_law_cell_at (hr.mono (by omega)) (pa_cons (pv 0) (pa_cons pe_int pa_nil))) pe_int) (fun _ _ => rfl)))
    (pss_cons (ps_set (i := 2) sc_law.nd rfl (Or.inl rfl) (gcall G_law_thing (hr.mono (by omega)) (pa_cons (pv 0) (pa_cons (pe_lst (pa_cons pe_int (pa_cons pe_int pa_nil))) (pa_cons (pv 1) (pa_cons (pe_op op_add pe_int (pe_op op_mod (pe_op op_fdiv (gcall G_law_cell_at (hr.mono (by omega)) (pa_cons (pv 0) (pa_cons pe_int pa_nil))) pe_int) pe_int)) (pa_cons pe_int pa_nil)))))))
    (pss_cons (ps_set (i := 2) sc_law.nd rfl (Or.inl rfl) (gcall G_law_more (hr.mono (by omega)) (pa_cons (pv 2) (pa_cons (pv 1) (pa_cons (gcall G_law_cell_at (hr.mono (by omega)) (pa_cons (pv 0) (pa_cons pe_int pa_nil))) pa_nil)))))
    (pss_cons (ps_set (i := 3) sc_law.nd rfl (Or.inl rfl) (pe_op op_add (pe_op op_add pe_int (gcall G_law_greatest (hr.mono (by omega)) (pa_cons (pv 2) (pa_cons pe_int pa_nil)))) (pe_op op_mod (gcall G_law_cell_at (hr.mono (by omega)) (pa_cons (pv 0) (pa_cons pe_int pa_nil))) pe_int)))
    (pss_cons (ps_set (i := 4) sc_law.nd rfl (Or.inl rfl) (gcall G_law_kept (hr.mono (by omega)) (pa_cons (pv 2) (pa_cons (pe_lst pa_nil) pa_nil))))
    (pss_cons (ps_set (i := 5) sc_law.nd rfl (Or.inl rfl) (gcall G_law_names (hr.mono (by omega)) (pa_cons (pv 3) (pa_cons (pe_op op_mod (pe_op op_fdiv (gcall G_law_cell_at (hr.mono (by omega)) (pa_cons (pv 0) (pa_cons pe_int pa_nil))) pe_int) pe_int) (pa_cons (pv 4) pa_nil)))))
    (pss_cons (ps_set (i := 6) sc_law.nd rfl (Or.inl rfl) (gcall G_shown (hr.mono (by omega)) (pa_cons (pv 2) (pa_cons (pv 5) pa_nil))))
    (pss_cons (ps_if (pt_cmpR (op_neD hr.units) (gcall G_law_read (hr.mono (by omega)) (pa_cons (pv 6) (pa_cons (pv 1) (pa_cons (pv 5) pa_nil)))) (pv 2) (nomark _)) (pss_one (ps_ret pe_bl)) pss_nil)
    (pss_cons (ps_set (i := 7) sc_law.nd rfl (Or.inl rfl) (gcall G_shown (hr.mono (by omega)) (pa_cons (pe_tup (pa_cons pe_str (pa_cons (pe_tup (pa_cons pe_str pa_nil)) (pa_cons (pe_tup (pa_cons pe_str (pa_cons (pe_tup (pa_cons pe_str (pa_cons pe_int pa_nil))) (pa_cons (pe_tup (pa_cons pe_str (pa_cons pe_int pa_nil))) pa_nil)))) pa_nil)))) (pa_cons (pe_lst (pa_cons pe_str pa_nil)) pa_nil))))
    (pss_cons (ps_if (pt_cmpR (op_neD hr.units) (gcall G_read_term (hr.mono (by omega)) (pa_cons (pv 7) (pa_cons (pe_lst (pa_cons pe_str pa_nil)) pa_nil))) (pe_tup (pa_cons pe_str (pa_cons (pe_tup (pa_cons pe_str pa_nil)) (pa_cons (pe_tup (pa_cons pe_str (pa_cons (pe_tup (pa_cons pe_str (pa_cons pe_int pa_nil))) (pa_cons (pe_tup (pa_cons pe_str (pa_cons pe_int pa_nil))) pa_nil)))) pa_nil)))) (nomark _)) (pss_one (ps_ret pe_bl)) pss_nil)
    (pss_cons (ps_set (i := 8) sc_law.nd rfl (Or.inl rfl) (gcall G_law_names (hr.mono (by omega)) (pa_cons (pv 3) (pa_cons (pe_op op_sub pe_int (pe_op op_mod (pe_op op_fdiv (gcall G_law_cell_at (hr.mono (by omega)) (pa_cons (pv 0) (pa_cons pe_int pa_nil))) pe_int) pe_int)) (pa_cons (pv 4) pa_nil)))))
    (pss_cons (ps_if (pt_cmpR (op_neD hr.units) (gcall G_law_read (hr.mono (by omega)) (pa_cons (gcall G_shown (hr.mono (by omega)) (pa_cons (pv 2) (pa_cons (pv 8) pa_nil))) (pa_cons (pv 1) (pa_cons (pv 8) pa_nil)))) (pv 2) (nomark _)) (pss_one (ps_ret pe_bl)) pss_nil)
    (pss_one (ps_ret (pe_and (pe_cmpR op_eq (gcall G_shown (hr.mono (by omega)) (pa_cons (pv 2) (pa_cons (pv 5) pa_nil))) (pv 6) (nomark _)) (pe_one (pe_cmpR (op_eqD hr.units) (gcall G_law_read (hr.mono (by omega)) (pa_cons (pv 6) (pa_cons (pv 1) (pa_cons (pv 5) pa_nil)))) (pv 2) (nomark _)))))))))))))))))), ?_⟩
  have scr : ∀ {H' : Hp}, Same H H' → SqL K H' a (ns.map V.int) := fun s => sql_kept ha fun o h => s _ _ h
  -- want
  refine ⟨smallN (by show 2 ≤ 1000000; decide), fun l hl => ?_⟩
  have s1 := same_new hl (.lst [V.str "t", V.str "k"])
  obtain ⟨b, hb⟩ : ∃ b, atI [V.str "t", V.str "k"] (cell ns 0 % 2) = some (V.str (wantT b)) := by
    have hc : cell ns 0 % 2 = ((0 : Nat) : Int) ∨ cell ns 0 % 2 = ((1 : Nat) : Int) := by omega
    rcases hc with hc | hc
    · exact ⟨false, by rw [hc]; exact atI_nat rfl⟩
    · exact ⟨true, by rw [hc]; exact atI_nat rfl⟩
  refine ⟨_, rfl, a, ns, 0, rfl, scr s1, _, _, rfl, rfl, (by show (0 : Int) < 2; decide), l, _, _, _, rfl, rfl, SqL.of upd_same, hb, ?_⟩
  -- the thing
  refine ⟨_, rfl, smallN (by show 2 ≤ 1000000; decide), fun st hst => ?_⟩
  have s2 := same_new hst (.lst [V.int 3, V.int 150])
  have S2 := s1.trans s2
  obtain ⟨d, hd, ed⟩ : ∃ d : Nat, d < 6 ∧ 1 + cell ns 0 / 2 % 5 = (d : Int) := ⟨(1 + cell ns 0 / 2 % 5).toNat, by omega, by omega⟩
  refine ⟨_, rfl, _, rfl, a, ns, 0, rfl, scr S2, _, _, rfl, rfl, ⟨by decide, by decide⟩, _, _, rfl, rfl, (by show (0 : Int) < 5; decide), _, _, rfl, rfl, d, hd, a, ns, st, b, 0, 3, 150, ?_, fun H' k => ?_, upd_same, by omega, by omega, by omega, fun t y p' q' H3 k3 h3 hp1 hp2 hq' hy g => ?_⟩
  · show [V.ref a, V.ref st, V.str (wantT b), V.int (1 + cell ns 0 / 2 % 5), V.int 0] = _
    rw [ed]
    rfl
  · exact sql_kept (scr s1) fun o h => k _ _ (ne_of_none h hst) (s2 _ _ h)
  have S3 : Same H H3 := fun c o hc => by
    have hc1 := s1 _ _ hc
    exact k3 _ _ (ne_of_none hc1 hst) (s2 _ _ hc1)
  have gen : Gen b t 0 300 36 := ⟨g.w, g.g, g.s, g.k, by have := g.kn; omega, by have := g.dp; omega⟩
  refine ⟨_, rfl, _, rfl, _, rfl, a, ns, 1, rfl, scr S3, t, y, b, _, rfl, hy, gen, fun t2 y2 H4 s4 h4 B => ?_⟩
  have S4 := S3.trans s4
  have B1 := B.w
  have B2 := B.dp
  have B3 := B.kn
  have B4 := B.g
  have g0 := gr_ge0 t2
  -- how many names
  refine ⟨_, rfl, t2, y2, b, 0, rfl, h4, B1, B2, fun H5 s5 => ⟨_, _, rfl, rfl, _, rfl, a, ns, 2, rfl, scr (S4.trans s5), _, _, rfl, rfl, (by show (0 : Int) < 3; decide), _, _, rfl, rfl, ?_⟩⟩
  have S5 := S4.trans s5
  obtain ⟨m, hm, em, hg⟩ : ∃ m : Nat, m ≤ 38 ∧ 1 + gr t2 0 + cell ns 2 % 3 = (m : Int) ∧ gr t2 0 < (m : Int) := ⟨(1 + gr t2 0 + cell ns 2 % 3).toNat, by omega, by omega, by omega⟩
  -- the kept names
  refine ⟨_, rfl, Nat.zero_le _, fun kd hkd => ?_⟩
  have s6 := same_new hkd (.lst [])
  refine ⟨t2, y2, b, kd, [], rfl, h4.mono (s5.trans s6).tk, B1, B2, upd_same, by show 0 + knots t2 ≤ 100000; omega, fun H7 k7 h7 => ?_⟩
  have s7 : Same H5 H7 := fun c o hc => k7 _ _ (ne_of_none hc hkd) (s6 _ _ hc)
  have S7 := S5.trans s7
  have h7' : Lst H7 kd (keptN t2) := h7
  have A7 : At H7 t2 y2 := h4.mono (s5.trans s7).tk
  -- the names
  refine ⟨_, rfl, _, rfl, a, ns, 2, rfl, scr S7, _, _, rfl, rfl, ⟨by decide, by decide⟩, _, _, rfl, rfl, (by show (0 : Int) < 2; decide), _, rfl, m, cell ns 2 / 3 % 2, kd, keptN t2, ?_, hm, h7', fun n8 H8 s8 hn8 h8 => ?_⟩
  · show [V.int (1 + gr t2 0 + cell ns 2 % 3), V.int (cell ns 2 / 3 % 2), V.ref kd] = _
    rw [em]
  have N8 := names_ok (cell ns 2 / 3 % 2) hm B.k
  have O8 := B.ok N8 hm hg
  generalize namesL m (cell ns 2 / 3 % 2) (keptN t2) = w8 at h8 N8 O8
  have A8 := A7.mono s8.tk
  -- the line
  refine ⟨_, rfl, _, rfl, t2, b, y2, n8, w8, rfl, A8, B1, h8, O8.sc, O8.bl, B2, B3, fun H9 s9 => ?_⟩
  have A9 := A8.mono s9.tk
  have h9 : Lst H9 n8 w8 := s9 _ _ h8
  -- read
  refine ⟨_, rfl, _, rfl, _, rfl, _, n8, b, w8, pmOf t2, rfl, O8.len, h9, O8.reads, fun y10 H10 s10 h10 => ?_⟩
  have A10 := A9.mono s10.tk
  have es : (!PyData.eqv (pd t2) (pd t2)) = false := by rw [eqv_self B1]; rfl
  refine ⟨_, rfl, pd t2, pd t2, At.dp (t := t2) h10, A10.dp, pd_shaped B1 (by omega), pd_shaped B1 (by omega), _, rfl, iteFc es ?_⟩
  -- the other
  refine ⟨smallN (by show 1 ≤ 1000000; decide), fun n1 hn1 => ⟨smallN (by show 2 ≤ 1000000; decide), fun n2 hn2 => ⟨smallN (by show 2 ≤ 1000000; decide), fun n3 hn3 => ⟨smallN (by show 3 ≤ 1000000; decide), fun n4 hn4 => ⟨smallN (by show 3 ≤ 1000000; decide), fun n5 hn5 => ?_⟩⟩⟩⟩⟩
  have u1 := same_new hn1 (.tup [V.str "nat"])
  have u2 := same_new hn2 (.tup [V.str "var", V.int 0])
  have u3 := same_new hn3 (.tup [V.str "var", V.int 1])
  have u4 := same_new hn4 (.tup [V.str "app", V.ref n2, V.ref n3])
  have u5 := same_new hn5 (.tup [V.str "fun", V.ref n1, V.ref n4])
  have U := (((u1.trans u2).trans u3).trans u4).trans u5
  have hone : At _ oneT (.ref n5) := At.mk (ks := [.nd "nat" [], appT (.v 0) (.v 1)]) upd_same (.cons ((At.mk (ks := []) upd_same .nil).mono (((u2.trans u3).trans u4).trans u5).tk) (.cons ((At.mk (ks := [.v 0, .v 1]) upd_same (.cons ((show At _ (.v 0) (.ref n2) by unfold At; exact ⟨n2, rfl, upd_same⟩).mono (u3.trans u4).tk) (.cons ((show At _ (.v 1) (.ref n3) by unfold At; exact ⟨n3, rfl, upd_same⟩).mono u4.tk) .nil))).mono u5.tk) .nil))
  have A11 := A10.mono U.tk
  refine ⟨smallN (by show 1 ≤ 1000000; decide), fun l11 hl11 => ?_⟩
  have s11 := same_new hl11 (.lst [V.str "b"])
  refine ⟨oneT, false, _, l11, ["b"], rfl, hone.mono s11.tk, one_ok.w, upd_same, one_ok.sc, one_ok.bl, one_ok.dp, one_ok.kn, fun H12 s12 => ?_⟩
  have A12 := A11.mono (s11.trans s12).tk
  have hk12 := (U.trans (s11.trans s12))
  clear hone u1 u2 u3 u4 u5
  refine ⟨_, rfl, smallN (by show 1 ≤ 1000000; decide), fun l13 hl13 => ?_⟩
  have s13 := same_new hl13 (.lst [V.str "b"])
  refine ⟨_, l13, ["b"], pmOf oneT, rfl, one_ok.len, upd_same, one_ok.reads, fun y14 H14 s14 h14 => ?_⟩
  have A14 := A12.mono (s13.trans s14).tk
  have K14 := hk12.trans (s13.trans s14)
  clear hk12
  refine ⟨smallN (by show 1 ≤ 1000000; decide), fun q1 hq1 => ⟨smallN (by show 2 ≤ 1000000; decide), fun q2 hq2 => ⟨smallN (by show 2 ≤ 1000000; decide), fun q3 hq3 => ⟨smallN (by show 3 ≤ 1000000; decide), fun q4 hq4 => ⟨smallN (by show 3 ≤ 1000000; decide), fun q5 hq5 => ?_⟩⟩⟩⟩⟩
  have u1 := same_new hq1 (.tup [V.str "nat"])
  have u2 := same_new hq2 (.tup [V.str "var", V.int 0])
  have u3 := same_new hq3 (.tup [V.str "var", V.int 1])
  have u4 := same_new hq4 (.tup [V.str "app", V.ref q2, V.ref q3])
  have u5 := same_new hq5 (.tup [V.str "fun", V.ref q1, V.ref q4])
  have U := (((u1.trans u2).trans u3).trans u4).trans u5
  have hone : At _ oneT (.ref q5) := At.mk (ks := [.nd "nat" [], appT (.v 0) (.v 1)]) upd_same (.cons ((At.mk (ks := []) upd_same .nil).mono (((u2.trans u3).trans u4).trans u5).tk) (.cons ((At.mk (ks := [.v 0, .v 1]) upd_same (.cons ((show At _ (.v 0) (.ref q2) by unfold At; exact ⟨q2, rfl, upd_same⟩).mono (u3.trans u4).tk) (.cons ((show At _ (.v 1) (.ref q3) by unfold At; exact ⟨q3, rfl, upd_same⟩).mono u4.tk) .nil))).mono u5.tk) .nil))
  have eo : (!PyData.eqv (pd oneT) (pd oneT)) = false := by rw [eqv_self one_ok.w]; rfl
  have h14' : At H14 oneT y14 := h14
  refine ⟨pd oneT, pd oneT, (h14'.mono U.tk).dp, hone.dp, pd_shaped one_ok.w (by have := one_ok.dp; omega), pd_shaped one_ok.w (by have := one_ok.dp; omega), _, rfl, iteFc eo ?_⟩
  have A15 := A14.mono U.tk
  have K15 := K14.trans U
  have S15 : Same H _ := (((S7.trans s8).trans s9).trans s10).trans K15
  have k15 : Lst _ kd (keptN t2) := K15 _ _ (s10 _ _ (s9 _ _ (s8 _ _ h7')))
  have h15 : Lst _ n8 w8 := K15 _ _ (s10 _ _ h9)
  -- the other names
  refine ⟨_, rfl, _, rfl, a, ns, 2, rfl, scr S15, _, _, rfl, rfl, ⟨by decide, by decide⟩, _, _, rfl, rfl, (by show (0 : Int) < 2; decide), _, _, rfl, rfl, _, rfl, m, 1 - cell ns 2 / 3 % 2, kd, keptN t2, ?_, hm, k15, fun n16 H16 s16 hn16 h16 => ?_⟩
  · show [V.int (1 + gr t2 0 + cell ns 2 % 3), V.int (1 - cell ns 2 / 3 % 2), V.ref kd] = _
    rw [em]
  have N16 := names_ok (1 - cell ns 2 / 3 % 2) hm B.k
  have O16 := B.ok N16 hm hg
  generalize namesL m (1 - cell ns 2 / 3 % 2) (keptN t2) = w16 at h16 N16 O16
  have A16 := A15.mono s16.tk
  refine ⟨_, rfl, _, rfl, t2, b, y2, n16, w16, rfl, A16, B1, h16, O16.sc, O16.bl, B2, B3, fun H17 s17 => ?_⟩
  have h17 : Lst H17 n16 w16 := s17 _ _ h16
  refine ⟨_, rfl, _, rfl, _, n16, b, w16, pmOf t2, rfl, O16.len, h17, O16.reads, fun y18 H18 s18 h18 => ?_⟩
  have A18 := A16.mono (s17.trans s18).tk
  refine ⟨_, rfl, pd t2, pd t2, At.dp (t := t2) h18, A18.dp, pd_shaped B1 (by omega), pd_shaped B1 (by omega), _, rfl, iteFc es ?_⟩
  -- once more
  have h18' : Lst H18 n8 w8 := s18 _ _ (s17 _ _ (s16 _ _ h15))
  refine ⟨_, rfl, _, rfl, t2, b, y2, n8, w8, rfl, A18, B1, h18', O8.sc, O8.bl, B2, B3, fun H19 s19 => ?_⟩
  have A19 := A18.mono s19.tk
  have h19 : Lst H19 n8 w8 := s19 _ _ h18'
  refine ⟨_, rfl, rfl, _, rfl, iteTc (decide_eq_true rfl) ?_⟩
  refine ⟨_, rfl, _, rfl, _, rfl, _, n8, b, w8, pmOf t2, rfl, O8.len, h19, O8.reads, fun y20 H20 s20 h20 => ?_⟩
  have A20 := A19.mono s20.tk
  refine ⟨_, rfl, pd t2, pd t2, At.dp (t := t2) h20, A20.dp, pd_shaped B1 (by omega), pd_shaped B1 (by omega), ?_⟩
  rw [eqv_self B1]
  exact qq _
end
end KP
set_option Elab.async false
set_option linter.all false
set_option maxRecDepth 100000
set_option maxHeartbeats 0
/-! KpFin: the join. -/
namespace KP
open PySem PySem.Spec PyProof.Rows L2
theorem def_of {K : PySem.W.Frag} {h : Heap} {mg : Str → Option Value} (X : K.In h) (G : h.Ns mainGlobals mg) (c : He.SaysD fa fn K) (i j : Nat) {x : Str} {st : Stmt} {ps : List Str} (h1 : fn[i]? = some (dOf x st)) (h2 : fa[j]? = some (.glo x))
    (hb : ∀ f fd, FunD K x x (defArgs st) (defBody st) (defScope st) [] [] f fd → Binds K fd ps []) : Def K mg x st ps := by
  obtain ⟨fd, F⟩ := c.def_ i h1
  exact ⟨_, fd, F, He.glo_ok X G (c.fact j h2), hb _ fd F⟩
theorem cls_ne {K : PySem.W.Frag} (c : He.SaysD fa fn K) : He.ga K "Form" ≠ He.ga K "Part" := by
  intro e
  obtain ⟨fd1, F1⟩ := c.def_ 50 (d := dIn "Form" "__init__" "Form.__init__" s_Form) rfl
  obtain ⟨fd2, F2⟩ := c.def_ 51 (d := dIn "Part" "__init__" "Part.__init__" s_Part) rfl
  obtain ⟨oc, od, dV, kV, doc, pm, an, cdv, ct, osl, rfl, lk, _⟩ := F1.ex
  obtain ⟨oc2, od2, dV2, kV2, doc2, pm2, an2, cdv2, ct2, osl2, rfl, lk2, _⟩ := F2.ex
  have ea : He.fAd K ("Form", some "__init__") = He.fAd K ("Part", some "__init__") := by
    show He.ma K (He.ga K "Form") "__init__" = He.ma K (He.ga K "Part") "__init__"
    rw [e]
  have lk' : K.lookup (He.fAd K ("Form", some "__init__")) = _ := lk
  rw [ea] at lk'
  have q := lk'.symm.trans lk2
  injection q with q
  injection q with _ _ q _
  injection q with q
  have q2 : ("Form.__init__" : Str) = "Part.__init__" := congrArg FuncData.qualname q
  exact absurd q2 (by decide +kernel)
theorem facts {P : Program} {w : World} {K : PySem.W.Frag} {h : Heap} {mg : Str → Option Value} {f : Addr} (X : K.In h) (G : h.Ns mainGlobals mg) (hfa : mg ("law" : Str) = some (.ref f)) (c : He.SaysD fa fn K) :
    ∃ fd : FuncData, (∀ (s : Shared) (v : Value), BindsTo s fd ⟨[v], []⟩ [("_law_script", v)]) ∧ ∀ base : Heap, K.In base → base.Ns mainGlobals mg → FnOk P w K mg base CX0 88 f fd ["_law_script"] (spLaw K) := by
  obtain ⟨fdL, FL⟩ := c.def_ 49 (d := dOf "law" s_law) rfl
  have e := hfa.symm.trans (He.glo_ok X G (c.fact 49 (f := .glo "law") rfl))
  cases e
  have b := FunD.bindsA (ps := ["_law_script"]) FL fun _ _ _ _ _ _ us hl => match us, hl with | [_], _ => rfl
  refine ⟨fdL, fun s v => b s [v] rfl, fun base _ _ => ?_⟩
  have Z : Blt mg := ⟨He.free_ok X G (c.fact 71 (f := .free "len") rfl), He.free_ok X G (c.fact 72 (f := .free "isinstance") rfl), He.free_ok X G (c.fact 73 (f := .free "int") rfl), He.free_ok X G (c.fact 74 (f := .free "str") rfl), He.free_ok X G (c.fact 75 (f := .free "tuple") rfl), He.free_ok X G (c.fact 76 (f := .free "bool") rfl), He.free_ok X G (c.fact 77 (f := .free "range") rfl), He.free_ok X G (c.fact 78 (f := .free "all") rfl), He.free_ok X G (c.fact 79 (f := .free "list") rfl), He.free_ok X G (c.fact 80 (f := .free "zip") rfl), He.free_ok X G (c.fact 81 (f := .free "sorted") rfl), He.free_ok X G (c.fact 82 (f := .free "max") rfl), He.free_ok X G (c.fact 83 (f := .free "min") rfl), He.free_ok X G (c.fact 84 (f := .free "sum") rfl), He.free_ok X G (c.fact 85 (f := .free "reversed") rfl)⟩
  have D_shape_of : Def K mg "shape_of" s_shape_of ["word"] := def_of X G c 0 0 rfl rfl fun _ _ F => F.bindsN fun _ _ _ _ _ _ us hl => match us, hl with | [_], _ => rfl
  have D_is_kind_word : Def K mg "is_kind_word" s_is_kind_word ["word"] := def_of X G c 1 1 rfl rfl fun _ _ F => F.bindsN fun _ _ _ _ _ _ us hl => match us, hl with | [_], _ => rfl
  have D_is_name : Def K mg "is_name" s_is_name ["thing"] := def_of X G c 2 2 rfl rfl fun _ _ F => F.bindsN fun _ _ _ _ _ _ us hl => match us, hl with | [_], _ => rfl
  have D_knots_if : Def K mg "knots_if" s_knots_if ["thing", "want", "left"] := def_of X G c 3 3 rfl rfl fun _ _ F => F.bindsN fun _ _ _ _ _ _ us hl => match us, hl with | [_, _, _], _ => rfl
  have D_is_term : Def K mg "is_term" s_is_term ["thing"] := def_of X G c 4 4 rfl rfl fun _ _ F => F.bindsN fun _ _ _ _ _ _ us hl => match us, hl with | [_], _ => rfl
  have D_kids_of : Def K mg "kids_of" s_kids_of ["thing"] := def_of X G c 5 5 rfl rfl fun _ _ F => F.bindsN fun _ _ _ _ _ _ us hl => match us, hl with | [_], _ => rfl
  have D_binds_of : Def K mg "binds_of" s_binds_of ["thing"] := def_of X G c 6 6 rfl rfl fun _ _ F => F.bindsN fun _ _ _ _ _ _ us hl => match us, hl with | [_], _ => rfl
  have D_noted : Def K mg "noted" s_noted ["thing", "over", "found"] := def_of X G c 7 7 rfl rfl fun _ _ F => F.bindsN fun _ _ _ _ _ _ us hl => match us, hl with | [_, _, _], _ => rfl
  have D_free_in : Def K mg "free_in" s_free_in ["thing"] := def_of X G c 8 8 rfl rfl fun _ _ F => F.bindsN fun _ _ _ _ _ _ us hl => match us, hl with | [_], _ => rfl
  have D_words_of : Def K mg "words_of" s_words_of ["text"] := def_of X G c 9 9 rfl rfl fun _ _ F => F.bindsN fun _ _ _ _ _ _ us hl => match us, hl with | [_], _ => rfl
  have D_is_free_word : Def K mg "is_free_word" s_is_free_word ["word"] := def_of X G c 10 10 rfl rfl fun _ _ F => F.bindsN fun _ _ _ _ _ _ us hl => match us, hl with | [_], _ => rfl
  have D_parts_of : Def K mg "parts_of" s_parts_of ["word"] := def_of X G c 11 11 rfl rfl fun _ _ F => F.bindsN fun _ _ _ _ _ _ us hl => match us, hl with | [_], _ => rfl
  have D_is_kind_form : Def K mg "is_kind_form" s_is_kind_form ["word"] := def_of X G c 12 12 rfl rfl fun _ _ F => F.bindsN fun _ _ _ _ _ _ us hl => match us, hl with | [_], _ => rfl
  have D_names_one : Def K mg "names_one" s_names_one ["word"] := def_of X G c 13 13 rfl rfl fun _ _ F => F.bindsN fun _ _ _ _ _ _ us hl => match us, hl with | [_], _ => rfl
  have D_bound_part : Def K mg "bound_part" s_bound_part ["word"] := def_of X G c 14 14 rfl rfl fun _ _ F => F.bindsN fun _ _ _ _ _ _ us hl => match us, hl with | [_], _ => rfl
  have D_number_of : Def K mg "number_of" s_number_of ["word"] := def_of X G c 15 15 rfl rfl fun _ _ F => F.bindsN fun _ _ _ _ _ _ us hl => match us, hl with | [_], _ => rfl
  have D_word_by : Def K mg "word_by" s_word_by ["number"] := def_of X G c 16 16 rfl rfl fun _ _ F => F.bindsN fun _ _ _ _ _ _ us hl => match us, hl with | [_], _ => rfl
  have D_told_names : Def K mg "told_names" s_told_names ["thing", "found"] := def_of X G c 17 17 rfl rfl fun _ _ F => F.bindsN fun _ _ _ _ _ _ us hl => match us, hl with | [_, _], _ => rfl
  have D_unlike_word : Def K mg "unlike_word" s_unlike_word ["taken"] := def_of X G c 18 18 rfl rfl fun _ _ F => F.bindsN fun _ _ _ _ _ _ us hl => match us, hl with | [_], _ => rfl
  have D_figures_of : Def K mg "figures_of" s_figures_of ["thing"] := def_of X G c 19 19 rfl rfl fun _ _ F => F.bindsN fun _ _ _ _ _ _ us hl => match us, hl with | [_], _ => rfl
  have D_shown_kids : Def K mg "shown_kids" s_shown_kids ["thing", "scope", "kept"] := def_of X G c 20 20 rfl rfl fun _ _ F => F.bindsN fun _ _ _ _ _ _ us hl => match us, hl with | [_, _, _], _ => rfl
  have D_shown_in : Def K mg "shown_in" s_shown_in ["thing", "scope", "kept"] := def_of X G c 21 21 rfl rfl fun _ _ F => F.bindsN fun _ _ _ _ _ _ us hl => match us, hl with | [_, _, _], _ => rfl
  have D_shown : Def K mg "shown" s_shown ["thing", "names"] := def_of X G c 22 22 rfl rfl fun _ _ F => F.bindsN fun _ _ _ _ _ _ us hl => match us, hl with | [_, _], _ => rfl
  have D_part_of : Def K mg "part_of" s_part_of ["word", "parts"] := def_of X G c 23 23 rfl rfl fun _ _ F => F.bindsN fun _ _ _ _ _ _ us hl => match us, hl with | [_, _], _ => rfl
  have D_figures_part : Def K mg "figures_part" s_figures_part ["number"] := def_of X G c 24 24 rfl rfl fun _ _ F => F.bindsN fun _ _ _ _ _ _ us hl => match us, hl with | [_], _ => rfl
  have D_variable_part : Def K mg "variable_part" s_variable_part ["number"] := def_of X G c 25 25 rfl rfl fun _ _ F => F.bindsN fun _ _ _ _ _ _ us hl => match us, hl with | [_], _ => rfl
  have D_binds_now : Def K mg "binds_now" s_binds_now ["form"] := def_of X G c 26 26 rfl rfl fun _ _ F => F.bindsN fun _ _ _ _ _ _ us hl => match us, hl with | [_], _ => rfl
  have D_named_part : Def K mg "named_part" s_named_part ["word", "forms", "names"] := def_of X G c 27 27 rfl rfl fun _ _ F => F.bindsN fun _ _ _ _ _ _ us hl => match us, hl with | [_, _, _], _ => rfl
  have D_leaf_part : Def K mg "leaf_part" s_leaf_part ["word", "forms", "names"] := def_of X G c 28 28 rfl rfl fun _ _ F => F.bindsN fun _ _ _ _ _ _ us hl => match us, hl with | [_, _, _], _ => rfl
  have D_is_open : Def K mg "is_open" s_is_open ["form"] := def_of X G c 29 29 rfl rfl fun _ _ F => F.bindsN fun _ _ _ _ _ _ us hl => match us, hl with | [_], _ => rfl
  have D_headed : Def K mg "headed" s_headed ["form", "word"] := def_of X G c 30 30 rfl rfl fun _ _ F => F.bindsN fun _ _ _ _ _ _ us hl => match us, hl with | [_, _], _ => rfl
  have D_placed_part : Def K mg "placed_part" s_placed_part ["forms", "part", "want"] := def_of X G c 31 31 rfl rfl fun _ _ F => F.bindsN fun _ _ _ _ _ _ us hl => match us, hl with | [_, _, _], _ => rfl
  have D_closed : Def K mg "closed" s_closed ["forms"] := def_of X G c 32 32 rfl rfl fun _ _ F => F.bindsN fun _ _ _ _ _ _ us hl => match us, hl with | [_], _ => rfl
  have D_read_part : Def K mg "read_part" s_read_part ["text", "names", "want"] := def_of X G c 33 33 rfl rfl fun _ _ F => F.bindsN fun _ _ _ _ _ _ us hl => match us, hl with | [_, _, _], _ => rfl
  have D_read_as : Def K mg "read_as" s_read_as ["text", "names", "want"] := def_of X G c 34 34 rfl rfl fun _ _ F => F.bindsN fun _ _ _ _ _ _ us hl => match us, hl with | [_, _, _], _ => rfl
  have D_read_term : Def K mg "read_term" s_read_term ["text", "names"] := def_of X G c 35 35 rfl rfl fun _ _ F => F.bindsN fun _ _ _ _ _ _ us hl => match us, hl with | [_, _], _ => rfl
  have D_read_kind : Def K mg "read_kind" s_read_kind ["text", "names"] := def_of X G c 36 36 rfl rfl fun _ _ F => F.bindsN fun _ _ _ _ _ _ us hl => match us, hl with | [_, _], _ => rfl
  have D_law_cell_at : Def K mg "_law_cell_at" s_law_cell_at ["_law_script", "_law_k"] := def_of X G c 37 37 rfl rfl fun _ _ F => F.bindsN fun _ _ _ _ _ _ us hl => match us, hl with | [_, _], _ => rfl
  have D_law_shape : Def K mg "_law_shape" s_law_shape ["_law_word"] := def_of X G c 38 38 rfl rfl fun _ _ F => F.bindsN fun _ _ _ _ _ _ us hl => match us, hl with | [_], _ => rfl
  have D_law_leaf : Def K mg "_law_leaf" s_law_leaf ["_law_cell", "_law_want", "_law_over", "_law_state"] := def_of X G c 39 39 rfl rfl fun _ _ F => F.bindsN fun _ _ _ _ _ _ us hl => match us, hl with | [_, _, _, _], _ => rfl
  have D_law_bound : Def K mg "_law_bound" s_law_bound ["_law_word"] := def_of X G c 40 40 rfl rfl fun _ _ F => F.bindsN fun _ _ _ _ _ _ us hl => match us, hl with | [_], _ => rfl
  have D_law_thing : Def K mg "_law_thing" s_law_thing ["_law_script", "_law_state", "_law_want", "_law_deep_here", "_law_over"] := def_of X G c 41 41 rfl rfl fun _ _ F => F.bindsN fun _ _ _ _ _ _ us hl => match us, hl with | [_, _, _, _, _], _ => rfl
  have D_law_greatest : Def K mg "_law_greatest" s_law_greatest ["_law_thing_here", "_law_over"] := def_of X G c 42 42 rfl rfl fun _ _ F => F.bindsN fun _ _ _ _ _ _ us hl => match us, hl with | [_, _], _ => rfl
  have D_law_knots : Def K mg "_law_knots" s_law_knots ["_law_thing_here"] := def_of X G c 43 43 rfl rfl fun _ _ F => F.bindsN fun _ _ _ _ _ _ us hl => match us, hl with | [_], _ => rfl
  have D_law_deep : Def K mg "_law_deep" s_law_deep ["_law_thing_here"] := def_of X G c 44 44 rfl rfl fun _ _ F => F.bindsN fun _ _ _ _ _ _ us hl => match us, hl with | [_], _ => rfl
  have D_law_read : Def K mg "_law_read" s_law_read ["_law_line", "_law_want", "_law_names_here"] := def_of X G c 45 45 rfl rfl fun _ _ F => F.bindsN fun _ _ _ _ _ _ us hl => match us, hl with | [_, _, _], _ => rfl
  have D_law_more : Def K mg "_law_more" s_law_more ["_law_thing_here", "_law_want", "_law_cell"] := def_of X G c 46 46 rfl rfl fun _ _ F => F.bindsN fun _ _ _ _ _ _ us hl => match us, hl with | [_, _, _], _ => rfl
  have D_law_kept : Def K mg "_law_kept" s_law_kept ["_law_thing_here", "_law_found"] := def_of X G c 47 47 rfl rfl fun _ _ F => F.bindsN fun _ _ _ _ _ _ us hl => match us, hl with | [_, _], _ => rfl
  have D_law_names : Def K mg "_law_names" s_law_names ["_law_many", "_law_far", "_law_kept_here"] := def_of X G c 48 48 rfl rfl fun _ _ F => F.bindsN fun _ _ _ _ _ _ us hl => match us, hl with | [_, _, _], _ => rfl
  have c_MOST_KNOTS_things := He.int_ok X G (c.fact 63 (f := .int "MOST_KNOTS_things" 600) rfl)
  have c_DEEPEST_things := He.int_ok X G (c.fact 64 (f := .int "DEEPEST_things" 40) rfl)
  have c_GREATEST_things := He.int_ok X G (c.fact 65 (f := .int "GREATEST_things" 99) rfl)
  have c_LETTERS_things : ∃ t, mg "LETTERS_things" = some (.str letters t) := He.str_ok X G (c.fact 66 (f := .str "LETTERS_things" "abcdefghijklmnopqrstuvwxyz") rfl)
  have c_LETTERS_showing : ∃ t, mg "LETTERS_showing" = some (.str letters t) := He.str_ok X G (c.fact 67 (f := .str "LETTERS_showing" "abcdefghijklmnopqrstuvwxyz") rfl)
  have c_MOST_KNOTS_reading := He.int_ok X G (c.fact 68 (f := .int "MOST_KNOTS_reading" 600) rfl)
  have c_DEEPEST_reading := He.int_ok X G (c.fact 69 (f := .int "DEEPEST_reading" 40) rfl)
  have c_GREATEST_reading := He.int_ok X G (c.fact 70 (f := .int "GREATEST_reading" 99) rfl)
  obtain ⟨fdF, FF⟩ := c.def_ 50 (d := dIn "Form" "__init__" "Form.__init__" s_Form) rfl
  obtain ⟨fdP, FP⟩ := c.def_ 51 (d := dIn "Part" "__init__" "Part.__init__" s_Part) rfl
  have clF := He.cls_ok (c.fact 52 (f := .cls "Form") rfl)
  have clP := He.cls_ok (c.fact 53 (f := .cls "Part") rfl)
  have T : Cl P w K mg base (He.ga K "Form") (He.ga K "Part") := by
    refine ⟨clF, clP, He.noat_ok (c.fact 56 (f := .noat "Form" "word") rfl), He.noat_ok (c.fact 57 (f := .noat "Form" "binder") rfl), He.noat_ok (c.fact 58 (f := .noat "Form" "parts") rfl), He.noat_ok (c.fact 59 (f := .noat "Part" "thing") rfl), He.noat_ok (c.fact 60 (f := .noat "Part" "word") rfl), He.noat_ok (c.fact 61 (f := .noat "Part" "knots") rfl), He.noat_ok (c.fact 62 (f := .noat "Part" "levels") rfl), He.glo_ok X G (c.fact 50 (f := .glo "Form") rfl), He.glo_ok X G (c.fact 51 (f := .glo "Part") rfl), cls_ne c, ?_, ?_⟩
    · exact ⟨_, fdF, He.mkr_ok (c.fact 54 (f := .mkr "Form") rfl), ok_Form FF clF (He.noat_ok (c.fact 56 (f := .noat "Form" "word") rfl)) (He.noat_ok (c.fact 57 (f := .noat "Form" "binder") rfl)) (He.noat_ok (c.fact 58 (f := .noat "Form" "parts") rfl)), FF.bindsN fun _ _ _ _ _ _ us hl => match us, hl with | [_], _ => rfl⟩
    · exact ⟨_, fdP, He.mkr_ok (c.fact 55 (f := .mkr "Part") rfl), ok_Part FP clP (He.noat_ok (c.fact 59 (f := .noat "Part" "thing") rfl)) (He.noat_ok (c.fact 60 (f := .noat "Part" "word") rfl)) (He.noat_ok (c.fact 61 (f := .noat "Part" "knots") rfl)) (He.noat_ok (c.fact 62 (f := .noat "Part" "levels") rfl)), FP.bindsN fun _ _ _ _ _ _ us hl => match us, hl with | [_, _, _, _, _], _ => rfl⟩
  have G_shape_of := ok_shape_of (P := P) (w := w) (base := base) D_shape_of
  have G_is_kind_word := ok_is_kind_word (P := P) (w := w) (base := base) D_is_kind_word
  have G_is_kind_form := ok_is_kind_form (P := P) (w := w) (base := base) D_is_kind_form
  have G_names_one := ok_names_one (P := P) (w := w) (base := base) D_names_one
  have G_bound_part := ok_bound_part (P := P) (w := w) (base := base) D_bound_part
  have G_parts_of := ok_parts_of (P := P) (w := w) (base := base) D_parts_of
  have G_is_name := ok_is_name (P := P) (w := w) (base := base) D_is_name Z c_LETTERS_things G_shape_of
  have G_knots_if := ok_knots_if (P := P) (w := w) (base := base) D_knots_if Z c_MOST_KNOTS_things G_shape_of G_is_kind_word G_is_name
  have G_is_term := ok_is_term (P := P) (w := w) (base := base) D_is_term c_DEEPEST_things G_knots_if
  have G_is_free_word := ok_is_free_word (P := P) (w := w) (base := base) D_is_free_word G_is_term
  have G_kids_of := ok_kids_of (P := P) (w := w) (base := base) D_kids_of Z
  have G_binds_of := ok_binds_of (P := P) (w := w) (base := base) D_binds_of Z G_kids_of
  have G_noted := ok_noted (P := P) (w := w) (base := base) D_noted Z G_kids_of G_binds_of 41
  have G_free_in := ok_free_in (P := P) (w := w) (base := base) D_free_in Z G_noted
  have G_told_names := ok_told_names (P := P) (w := w) (base := base) D_told_names Z G_kids_of 41
  have G_word_by := ok_word_by (P := P) (w := w) (base := base) D_word_by c_LETTERS_showing
  have G_unlike_word := ok_unlike_word (P := P) (w := w) (base := base) D_unlike_word G_word_by G_is_free_word
  have G_figures_of := ok_figures_of (P := P) (w := w) (base := base) D_figures_of Z
  have G_shown_in := ok_shown_all (P := P) (w := w) (base := base) D_shown_in D_shown_kids Z G_figures_of G_kids_of G_names_one G_bound_part G_unlike_word 40
  have G_shown := ok_shown (P := P) (w := w) (base := base) D_shown Z G_free_in G_told_names G_shown_in
  have G_number_of := ok_number_of (P := P) (w := w) (base := base) D_number_of Z
  have G_words_of := ok_words_of (P := P) (w := w) (base := base) D_words_of
  have G_variable_part := ok_variable_part (P := P) (w := w) (base := base) D_variable_part T c_GREATEST_reading
  have G_figures_part := ok_figures_part (P := P) (w := w) (base := base) D_figures_part Z T
  have G_part_of := ok_part_of (P := P) (w := w) (base := base) D_part_of Z T c_MOST_KNOTS_reading c_DEEPEST_reading
  have G_binds_now := ok_binds_now (P := P) (w := w) (base := base) D_binds_now Z T G_names_one G_bound_part
  have G_is_open := ok_is_open (P := P) (w := w) (base := base) D_is_open Z T G_names_one G_parts_of
  have G_headed := ok_headed (P := P) (w := w) (base := base) D_headed Z T G_names_one G_parts_of G_is_free_word
  have G_closed := ok_closed (P := P) (w := w) (base := base) D_closed Z T G_parts_of G_part_of
  have G_placed_part := ok_placed_part (P := P) (w := w) (base := base) D_placed_part Z T G_parts_of G_is_kind_form
  have G_named_part := ok_named_part (P := P) (w := w) (base := base) D_named_part Z T G_binds_now G_variable_part
  have G_leaf_part := ok_leaf_part (P := P) (w := w) (base := base) D_leaf_part Z T G_is_free_word G_named_part G_number_of G_figures_part
  have G_read_part := ok_read_part (P := P) (w := w) (base := base) D_read_part Z T G_words_of G_is_open G_closed G_placed_part G_headed G_leaf_part
  have G_read_as := ok_read_as (P := P) (w := w) (base := base) D_read_as Z T G_read_part
  have G_read_term := ok_read_term (P := P) (w := w) (base := base) D_read_term G_read_as
  have G_read_kind := ok_read_kind (P := P) (w := w) (base := base) D_read_kind G_read_as
  have G_law_knots := ok_law_knots (P := P) (w := w) (base := base) D_law_knots Z 40
  have G_law_deep := ok_law_deep (P := P) (w := w) (base := base) D_law_deep Z 40
  have G_law_kept := ok_law_kept (P := P) (w := w) (base := base) D_law_kept Z 40
  have G_law_cell_at := ok_law_cell_at (P := P) (w := w) (base := base) D_law_cell_at Z
  have G_law_shape := ok_law_shape (P := P) (w := w) (base := base) D_law_shape
  have G_law_bound := ok_law_bound (P := P) (w := w) (base := base) D_law_bound
  have G_law_read := ok_law_read (P := P) (w := w) (base := base) D_law_read G_read_kind G_read_term
  have G_law_greatest := ok_law_greatest (P := P) (w := w) (base := base) D_law_greatest Z G_law_bound 40
  have G_law_leaf := ok_law_leaf (P := P) (w := w) (base := base) D_law_leaf Z
  have G_law_thing := ok_law_things (P := P) (w := w) (base := base) D_law_thing Z G_law_cell_at G_law_shape G_law_bound G_law_leaf 6
  have G_law_more := ok_law_more (P := P) (w := w) (base := base) D_law_more Z G_law_knots G_law_deep
  have G_law_names := ok_law_names (P := P) (w := w) (base := base) D_law_names Z
  exact ok_law FL Z G_law_cell_at G_law_thing G_law_more G_law_greatest G_law_kept G_law_names G_shown G_law_read G_read_term
end KP
set_option Elab.async false
set_option linter.all false
set_option maxRecDepth 100000
set_option maxHeartbeats 0
/-! KpEnd: the claim. -/
open PySem PySem.W PySem.Calls PyProof.Rows
theorem PySem.Challenge.cw_keeper_k57_whole_read_of_shown_holds : PySem.Challenge.rw_keeper_k57_whole_read_of_shown.Holds := by
  w_on; o_law
  refine HandSHeadRun.head_any (r := OpenLaw.row PySem.Challenge.rw_keeper_k57_whole_read_of_shown) (q := view (OpenLaw.row PySem.Challenge.rw_keeper_k57_whole_read_of_shown).prog [72]) (H := KP.hk) (ob := KP.ob) (M := 4000) (loose := KP.loose) (d := HandSHeadRun.topDef (OpenLaw.row PySem.Challenge.rw_keeper_k57_whole_read_of_shown).prog 72) (kwd := []) KP.ob_eq
    (by kernel_rfl) (fun s => by kernel_rfl) KP.run (by kernel_rfl) (by kernel_rfl) (by kernel_rfl) (by rfl) (by first | assumption | decide +kernel) (by decide +kernel) ⟨rfl, rfl, rfl, rfl, rfl, by decide +kernel⟩ ?hw ?hc
  case hw => w_witness2
  case hc =>
    refine L2.walk_ofE (l := PySem.Challenge.rw_keeper_k57_whole_read_of_shown) (n := 63) (k := 88) (x := "_law_script") (CX := L2.CX0) rfl (by decide) (by kernel_rfl) ⟨rfl, by decide, by decide⟩ ?F (fun _ _ _ _ z => z)
    intro w mg fa h Y G hmg0
    obtain ⟨K, KX, c⟩ := Y
    have hmg : mg ("law" : PySem.Str) = some (.ref fa) := by
      have e : (HandSHeadRun.topDef (OpenLaw.row PySem.Challenge.rw_keeper_k57_whole_read_of_shown).prog 72).name = ("law" : PySem.Str) := by kernel_rfl
      rw [← e]
      exact hmg0
    obtain ⟨fd, hb, hF⟩ := KP.facts (P := (PySem.Challenge.rw_keeper_k57_whole_read_of_shown).prog) (w := w) KX G hmg c
    exact ⟨K, fd, KP.spLaw K, KX, hb, fun H a ns hl _ hS => ⟨a, ns, rfl, hS, fun _ => rfl⟩, hF⟩
#print axioms PySem.Challenge.cw_keeper_k57_whole_read_of_shown_holds
