import PyProof.Rows.All
import HandS.HeadHook4
import HandS.HeadWalk
import HandS.WordsDict
import HandS.Head0
import HandS.Head1
import HandS.Head2
import HandS.HeadEnd
import KE.KStateDown
import Wide.All
import OpenK.AllK
import Wide.FinOn
import HandS.ForMost
import HandS.IsInst
import HandS.TupLe
import HandS.Deep
import HandS.SortOrd
import HandS.Wide
import KE.KDictKeyed
import KE.KDictWalk
import KE.KeyNested
import HandS.TupAny
import HandS.Flow
import HandS.TupMul
import KE.GoesZip
import KE.GoesEnum
import KE.GoesMore
import HandS.AnyAll
import HandS.GenOver
import HandS.GenList
import HandS.Comp
import HandS.Text
import HandS.More
import HandS.Dict
import HandS.Conv
import KE.KDictDisplayH
import KE.KDictCopyH
import KE.KDictSum
import HandS.SortRule
import KE.KSortTup
import KE.KSortAsk
import HandS.TupLen
import HandS.Defaults
import PyProof.ReprLoop
import PyProof.ReprReads
import HandS.Style
import PySem.Challenge.RW_wholelost_k98_whole_roads_that_only_send
set_option Elab.async false
set_option linter.all false
set_option maxRecDepth 100000
set_option maxHeartbeats 0
/-! the run of the top. -/
namespace Wk98
open PySem PySem.Spec PyProof.Rows L2
def top (i : Nat) : Stmt := PySem.Challenge.pw_wholelost_k98_whole_roads_that_only_send.main.body.getD i (.Pass ⟨0, 0, 0, 0⟩)
abbrev s_is_integer : Stmt := top 9
abbrev s_is_natural : Stmt := top 10
abbrev s_is_below : Stmt := top 11
abbrev s_is_between : Stmt := top 12
abbrev s_is_k : Stmt := top 13
abbrev s_is_letters : Stmt := top 14
abbrev s_check_k : Stmt := top 15
abbrev s_is_ascending : Stmt := top 16
abbrev s_is_word_of : Stmt := top 18
abbrev s_check_word : Stmt := top 19
abbrev s_found_in : Stmt := top 20
abbrev s_strewn_in : Stmt := top 21
abbrev s_is_deed : Stmt := top 25
abbrev s_is_step : Stmt := top 26
abbrev s_is_system : Stmt := top 27
abbrev s_check_system : Stmt := top 28
abbrev s_are_words : Stmt := top 29
abbrev s_is_stand_in : Stmt := top 30
abbrev s_check_stand : Stmt := top 31
abbrev s_are_strewn : Stmt := top 32
abbrev s_with_word : Stmt := top 33
abbrev s_words_ahead : Stmt := top 34
abbrev s_leads_in : Stmt := top 35
abbrev s_is_at : Stmt := top 36
abbrev s_ways_to : Stmt := top 37
abbrev s_run_from : Stmt := top 38
abbrev s_is_run : Stmt := top 39
abbrev s_are_least : Stmt := top 40
abbrev s_are_bars : Stmt := top 41
abbrev s_is_closed : Stmt := top 42
abbrev s_leads_on : Stmt := top 43
abbrev s_ahead : Stmt := top 44
abbrev s_comes : Stmt := top 45
abbrev s_judge_comes : Stmt := top 46
abbrev s_is_atom : Stmt := top 48
abbrev s_are_atoms : Stmt := top 49
abbrev s_fits : Stmt := top 50
abbrev s_takes_up : Stmt := top 51
abbrev s_put_behind : Stmt := top 52
abbrev s_reduced_in : Stmt := top 53
abbrev s_rest_behind : Stmt := top 54
abbrev s_product_has_in : Stmt := top 55
abbrev s_is_product_of : Stmt := top 56
abbrev s_check_product : Stmt := top 57
abbrev s_reduced : Stmt := top 58
abbrev s_product_has : Stmt := top 59
abbrev s__law_well : Stmt := top 61
abbrev s__law_take : Stmt := top 62
abbrev s__law_same : Stmt := top 63
abbrev s__law_word : Stmt := top 64
abbrev s__law_strewn : Stmt := top 65
abbrev s__law_paper_right : Stmt := top 66
abbrev s_law : Stmt := top 67
end Wk98
namespace F98
open PySem PySem.Spec PyProof.Rows L2 Wk98
def d_is_integer : He.DefD := ⟨("is_integer", none), "is_integer", "is_integer", defArgs s_is_integer, defBody s_is_integer, defScope s_is_integer, [], []⟩
def d_is_natural : He.DefD := ⟨("is_natural", none), "is_natural", "is_natural", defArgs s_is_natural, defBody s_is_natural, defScope s_is_natural, [], []⟩
def d_is_below : He.DefD := ⟨("is_below", none), "is_below", "is_below", defArgs s_is_below, defBody s_is_below, defScope s_is_below, [], []⟩
def d_is_between : He.DefD := ⟨("is_between", none), "is_between", "is_between", defArgs s_is_between, defBody s_is_between, defScope s_is_between, [], []⟩
def d_is_k : He.DefD := ⟨("is_k", none), "is_k", "is_k", defArgs s_is_k, defBody s_is_k, defScope s_is_k, [], []⟩
def d_is_letters : He.DefD := ⟨("is_letters", none), "is_letters", "is_letters", defArgs s_is_letters, defBody s_is_letters, defScope s_is_letters, [], []⟩
def d_check_k : He.DefD := ⟨("check_k", none), "check_k", "check_k", defArgs s_check_k, defBody s_check_k, defScope s_check_k, [], []⟩
def d_is_ascending : He.DefD := ⟨("is_ascending", none), "is_ascending", "is_ascending", defArgs s_is_ascending, defBody s_is_ascending, defScope s_is_ascending, [], []⟩
def d_is_word_of : He.DefD := ⟨("is_word_of", none), "is_word_of", "is_word_of", defArgs s_is_word_of, defBody s_is_word_of, defScope s_is_word_of, [], []⟩
def d_check_word : He.DefD := ⟨("check_word", none), "check_word", "check_word", defArgs s_check_word, defBody s_check_word, defScope s_check_word, [], []⟩
def d_found_in : He.DefD := ⟨("found_in", none), "found_in", "found_in", defArgs s_found_in, defBody s_found_in, defScope s_found_in, [], []⟩
def d_strewn_in : He.DefD := ⟨("strewn_in", none), "strewn_in", "strewn_in", defArgs s_strewn_in, defBody s_strewn_in, defScope s_strewn_in, [], []⟩
def d_is_deed : He.DefD := ⟨("is_deed", none), "is_deed", "is_deed", defArgs s_is_deed, defBody s_is_deed, defScope s_is_deed, [], []⟩
def d_is_step : He.DefD := ⟨("is_step", none), "is_step", "is_step", defArgs s_is_step, defBody s_is_step, defScope s_is_step, [], []⟩
def d_is_system : He.DefD := ⟨("is_system", none), "is_system", "is_system", defArgs s_is_system, defBody s_is_system, defScope s_is_system, [], []⟩
def d_check_system : He.DefD := ⟨("check_system", none), "check_system", "check_system", defArgs s_check_system, defBody s_check_system, defScope s_check_system, [], []⟩
def d_are_words : He.DefD := ⟨("are_words", none), "are_words", "are_words", defArgs s_are_words, defBody s_are_words, defScope s_are_words, [], []⟩
def d_is_stand_in : He.DefD := ⟨("is_stand_in", none), "is_stand_in", "is_stand_in", defArgs s_is_stand_in, defBody s_is_stand_in, defScope s_is_stand_in, [], []⟩
def d_check_stand : He.DefD := ⟨("check_stand", none), "check_stand", "check_stand", defArgs s_check_stand, defBody s_check_stand, defScope s_check_stand, [], []⟩
def d_are_strewn : He.DefD := ⟨("are_strewn", none), "are_strewn", "are_strewn", defArgs s_are_strewn, defBody s_are_strewn, defScope s_are_strewn, [], []⟩
def d_with_word : He.DefD := ⟨("with_word", none), "with_word", "with_word", defArgs s_with_word, defBody s_with_word, defScope s_with_word, [], []⟩
def d_words_ahead : He.DefD := ⟨("words_ahead", none), "words_ahead", "words_ahead", defArgs s_words_ahead, defBody s_words_ahead, defScope s_words_ahead, [], []⟩
def d_leads_in : He.DefD := ⟨("leads_in", none), "leads_in", "leads_in", defArgs s_leads_in, defBody s_leads_in, defScope s_leads_in, [], []⟩
def d_is_at : He.DefD := ⟨("is_at", none), "is_at", "is_at", defArgs s_is_at, defBody s_is_at, defScope s_is_at, [], []⟩
def d_ways_to : He.DefD := ⟨("ways_to", none), "ways_to", "ways_to", defArgs s_ways_to, defBody s_ways_to, defScope s_ways_to, [], []⟩
def d_run_from : He.DefD := ⟨("run_from", none), "run_from", "run_from", defArgs s_run_from, defBody s_run_from, defScope s_run_from, [], []⟩
def d_is_run : He.DefD := ⟨("is_run", none), "is_run", "is_run", defArgs s_is_run, defBody s_is_run, defScope s_is_run, [], []⟩
def d_are_least : He.DefD := ⟨("are_least", none), "are_least", "are_least", defArgs s_are_least, defBody s_are_least, defScope s_are_least, [], []⟩
def d_are_bars : He.DefD := ⟨("are_bars", none), "are_bars", "are_bars", defArgs s_are_bars, defBody s_are_bars, defScope s_are_bars, [], []⟩
def d_is_closed : He.DefD := ⟨("is_closed", none), "is_closed", "is_closed", defArgs s_is_closed, defBody s_is_closed, defScope s_is_closed, [], []⟩
def d_leads_on : He.DefD := ⟨("leads_on", none), "leads_on", "leads_on", defArgs s_leads_on, defBody s_leads_on, defScope s_leads_on, [], []⟩
def d_ahead : He.DefD := ⟨("ahead", none), "ahead", "ahead", defArgs s_ahead, defBody s_ahead, defScope s_ahead, [], []⟩
def d_comes : He.DefD := ⟨("comes", none), "comes", "comes", defArgs s_comes, defBody s_comes, defScope s_comes, [], []⟩
def d_judge_comes : He.DefD := ⟨("judge_comes", none), "judge_comes", "judge_comes", defArgs s_judge_comes, defBody s_judge_comes, defScope s_judge_comes, [], []⟩
def d_is_atom : He.DefD := ⟨("is_atom", none), "is_atom", "is_atom", defArgs s_is_atom, defBody s_is_atom, defScope s_is_atom, [], []⟩
def d_are_atoms : He.DefD := ⟨("are_atoms", none), "are_atoms", "are_atoms", defArgs s_are_atoms, defBody s_are_atoms, defScope s_are_atoms, [], []⟩
def d_fits : He.DefD := ⟨("fits", none), "fits", "fits", defArgs s_fits, defBody s_fits, defScope s_fits, [], []⟩
def d_takes_up : He.DefD := ⟨("takes_up", none), "takes_up", "takes_up", defArgs s_takes_up, defBody s_takes_up, defScope s_takes_up, [], []⟩
def d_put_behind : He.DefD := ⟨("put_behind", none), "put_behind", "put_behind", defArgs s_put_behind, defBody s_put_behind, defScope s_put_behind, [], []⟩
def d_reduced_in : He.DefD := ⟨("reduced_in", none), "reduced_in", "reduced_in", defArgs s_reduced_in, defBody s_reduced_in, defScope s_reduced_in, [], []⟩
def d_rest_behind : He.DefD := ⟨("rest_behind", none), "rest_behind", "rest_behind", defArgs s_rest_behind, defBody s_rest_behind, defScope s_rest_behind, [], []⟩
def d_product_has_in : He.DefD := ⟨("product_has_in", none), "product_has_in", "product_has_in", defArgs s_product_has_in, defBody s_product_has_in, defScope s_product_has_in, [], []⟩
def d_is_product_of : He.DefD := ⟨("is_product_of", none), "is_product_of", "is_product_of", defArgs s_is_product_of, defBody s_is_product_of, defScope s_is_product_of, [], []⟩
def d_check_product : He.DefD := ⟨("check_product", none), "check_product", "check_product", defArgs s_check_product, defBody s_check_product, defScope s_check_product, [], []⟩
def d_reduced : He.DefD := ⟨("reduced", none), "reduced", "reduced", defArgs s_reduced, defBody s_reduced, defScope s_reduced, [], []⟩
def d_product_has : He.DefD := ⟨("product_has", none), "product_has", "product_has", defArgs s_product_has, defBody s_product_has, defScope s_product_has, [], []⟩
def d__law_well : He.DefD := ⟨("_law_well", none), "_law_well", "_law_well", defArgs s__law_well, defBody s__law_well, defScope s__law_well, [], []⟩
def d__law_take : He.DefD := ⟨("_law_take", none), "_law_take", "_law_take", defArgs s__law_take, defBody s__law_take, defScope s__law_take, [], []⟩
def d__law_same : He.DefD := ⟨("_law_same", none), "_law_same", "_law_same", defArgs s__law_same, defBody s__law_same, defScope s__law_same, [], []⟩
def d__law_word : He.DefD := ⟨("_law_word", none), "_law_word", "_law_word", defArgs s__law_word, defBody s__law_word, defScope s__law_word, [], []⟩
def d__law_strewn : He.DefD := ⟨("_law_strewn", none), "_law_strewn", "_law_strewn", defArgs s__law_strewn, defBody s__law_strewn, defScope s__law_strewn, [], []⟩
def d__law_paper_right : He.DefD := ⟨("_law_paper_right", none), "_law_paper_right", "_law_paper_right", defArgs s__law_paper_right, defBody s__law_paper_right, defScope s__law_paper_right, [], []⟩
def d_law : He.DefD := ⟨("law", none), "law", "law", defArgs s_law, defBody s_law, defScope s_law, [], []⟩
def fn : List He.DefD := [d_is_integer, d_is_natural, d_is_below, d_is_between, d_is_k, d_is_letters, d_check_k, d_is_ascending, d_is_word_of, d_check_word, d_found_in, d_strewn_in, d_is_deed, d_is_step, d_is_system, d_check_system, d_are_words, d_is_stand_in, d_check_stand, d_are_strewn, d_with_word, d_words_ahead, d_leads_in, d_is_at, d_ways_to, d_run_from, d_is_run, d_are_least, d_are_bars, d_is_closed, d_leads_on, d_ahead, d_comes, d_judge_comes, d_is_atom, d_are_atoms, d_fits, d_takes_up, d_put_behind, d_reduced_in, d_rest_behind, d_product_has_in, d_is_product_of, d_check_product, d_reduced, d_product_has, d__law_well, d__law_take, d__law_same, d__law_word, d__law_strewn, d__law_paper_right, d_law]
def fa : List He.Fa := [.glo "is_integer", .glo "is_natural", .glo "is_below", .glo "is_between", .glo "is_k", .glo "is_letters", .glo "check_k", .glo "is_ascending", .glo "is_word_of", .glo "check_word", .glo "found_in", .glo "strewn_in", .glo "is_deed", .glo "is_step", .glo "is_system", .glo "check_system", .glo "are_words", .glo "is_stand_in", .glo "check_stand", .glo "are_strewn", .glo "with_word", .glo "words_ahead", .glo "leads_in", .glo "is_at", .glo "ways_to", .glo "run_from", .glo "is_run", .glo "are_least", .glo "are_bars", .glo "is_closed", .glo "leads_on", .glo "ahead", .glo "comes", .glo "judge_comes", .glo "is_atom", .glo "are_atoms", .glo "fits", .glo "takes_up", .glo "put_behind", .glo "reduced_in", .glo "rest_behind", .glo "product_has_in", .glo "is_product_of", .glo "check_product", .glo "reduced", .glo "product_has", .glo "_law_well", .glo "_law_take", .glo "_law_same", .glo "_law_word", .glo "_law_strewn", .glo "_law_paper_right", .glo "law", .free "abs", .free "all", .free "any", .free "bool", .free "enumerate", .free "int", .free "isinstance", .free "len", .free "list", .free "max", .free "min", .free "range", .free "repr", .free "sorted", .free "str", .free "tuple", .free "zip", .int "MOST_LETTERS" 3, .int "MOST_ROADS" 2, .int "SEND" 1]
def tf : List He.Defn := [("is_letters", none), ("is_ascending", none), ("is_system", none), ("are_words", none), ("are_strewn", none), ("is_at", none), ("is_run", none), ("are_least", none), ("are_bars", none), ("is_closed", none), ("is_atom", none), ("are_atoms", none), ("fits", none)]
abbrev RW : PySem.W.OpenRow := PySem.W.OpenLaw.row PySem.Challenge.rw_wholelost_k98_whole_roads_that_only_send
abbrev hk : PySem.W.Hook := He.hookX 4 fa fn [] tf (fun _ => true)
def ob (s : PySem.W.SharedT) : He.AlX := He.obsX 4 fa fn [] tf (fun _ => true) (HandSHeadRun.getT s)
theorem ob_eq (s : PySem.W.SharedT) : ob s = hk.obs s.abs := He.obsX_eq (HandSHeadRun.getT_eq s)
theorem run (w : World) : HandSHeadRun.RunEq RW (PySem.W.view RW.prog [67]) hk ob 9000 [("StrewnError" : PySem.Str), ("InvalidNumber" : PySem.Str), ("InvalidWord" : PySem.Str), ("InvalidProduct" : PySem.Str), ("InvalidSystem" : PySem.Str), ("InvalidStand" : PySem.Str), ("is_integer" : PySem.Str), ("is_natural" : PySem.Str), ("is_below" : PySem.Str), ("is_between" : PySem.Str), ("is_k" : PySem.Str), ("is_letters" : PySem.Str), ("check_k" : PySem.Str), ("is_ascending" : PySem.Str), ("is_word_of" : PySem.Str), ("check_word" : PySem.Str), ("found_in" : PySem.Str), ("strewn_in" : PySem.Str), ("is_deed" : PySem.Str), ("is_step" : PySem.Str), ("is_system" : PySem.Str), ("check_system" : PySem.Str), ("are_words" : PySem.Str), ("is_stand_in" : PySem.Str), ("check_stand" : PySem.Str), ("are_strewn" : PySem.Str), ("with_word" : PySem.Str), ("words_ahead" : PySem.Str), ("leads_in" : PySem.Str), ("is_at" : PySem.Str), ("ways_to" : PySem.Str), ("run_from" : PySem.Str), ("is_run" : PySem.Str), ("are_least" : PySem.Str), ("are_bars" : PySem.Str), ("is_closed" : PySem.Str), ("leads_on" : PySem.Str), ("ahead" : PySem.Str), ("comes" : PySem.Str), ("judge_comes" : PySem.Str), ("is_atom" : PySem.Str), ("are_atoms" : PySem.Str), ("fits" : PySem.Str), ("takes_up" : PySem.Str), ("put_behind" : PySem.Str), ("reduced_in" : PySem.Str), ("rest_behind" : PySem.Str), ("product_has_in" : PySem.Str), ("is_product_of" : PySem.Str), ("check_product" : PySem.Str), ("reduced" : PySem.Str), ("product_has" : PySem.Str), ("_law_well" : PySem.Str), ("_law_take" : PySem.Str), ("_law_same" : PySem.Str), ("_law_word" : PySem.Str), ("_law_strewn" : PySem.Str), ("_law_paper_right" : PySem.Str), ("MOST_LETTERS" : PySem.Str), ("MOST_ROADS" : PySem.Str), ("SEND" : PySem.Str)] w := by
  intro os
  kernel_rfl
end F98
set_option Elab.async false
set_option linter.all false
set_option maxRecDepth 100000
/-! Lark, part 1: data values, the small memory, readings over them, and what they mean over the hand layer. -/
namespace Lk
open PySem PySem.Spec PyProof.Rows L2

/-- a value: data inline, a mutable object by its address -/
inductive D where
  | non | bl (b : Bool) | int (i : Int) | str (x : Str) | tup (xs : List D) | ref (a : Addr) | ty (n : String)
  /-- a list that is read alone -/
  | rol (xs : List D)

/-- a mutable object -/
inductive MO where
  | lst (xs : List D)
  | dct (kvs : List (D × D))
  | ins (C dx : Addr) (fs : List (Str × D))

abbrev Mm := Addr → Option MO
def mset (M : Mm) (a : Addr) (o : MO) : Mm := fun b => if b = a then some o else M b
theorem mset_same {M : Mm} {a : Addr} {o : MO} : mset M a o a = some o := by unfold mset; rw [if_pos rfl]
theorem mset_ne {M : Mm} {a b : Addr} {o : MO} (h : b ≠ a) : mset M a o b = M b := by unfold mset; rw [if_neg h]
theorem mset_mset {M : Mm} {a : Addr} {o u : MO} : mset (mset M a o) a u = mset M a u := by
  funext b; unfold mset; split <;> rfl
theorem mset_comm {M : Mm} {a b : Addr} {o u : MO} (h : a ≠ b) : mset (mset M a o) b u = mset (mset M b u) a o := by
  funext c; unfold mset
  by_cases h1 : c = b
  · subst h1; rw [if_pos rfl, if_neg (Ne.symm h), if_pos rfl]
  · by_cases h2 : c = a
    · subst h2; rw [if_neg h1, if_pos rfl, if_pos rfl]
    · rw [if_neg h1, if_neg h2, if_neg h2, if_neg h1]
/-- the one memory has what the other one has -/
def Sub (M N : Mm) : Prop := ∀ a o, M a = some o → N a = some o
theorem Sub.refl (M : Mm) : Sub M M := fun _ _ h => h
theorem Sub.trans {A B C : Mm} (h : Sub A B) (k : Sub B C) : Sub A C := fun a o e => k a o (h a o e)
theorem Sub.new {M : Mm} {p : Addr} {o : MO} (h : M p = none) : Sub M (mset M p o) := fun a u e => by
  rw [mset_ne]; exact e
  intro z; rw [z, h] at e; cases e
theorem Sub.set {M N : Mm} (h : Sub M N) (p : Addr) (o : MO) : Sub (mset M p o) (mset N p o) := fun a u e => by
  by_cases z : a = p
  · subst z; rw [mset_same] at e ⊢; exact e
  · rw [mset_ne z] at e ⊢; exact h a u e
theorem Sub.none {M N : Mm} (h : Sub M N) {p : Addr} (e : N p = none) : M p = none := by
  cases q : M p with
  | none => rfl
  | some o => rw [h p o q] at e; cases e

abbrev DSt := List (Option D)
abbrev Kd := D → Mm → Prop
/-- what is wanted of an exception: its class, its value -/
abbrev EK := Addr → D → Mm → Prop
/-- readings: of an expression, a test, arguments -/
abbrev DE := EK → DSt → Mm → Kd → Prop
abbrev DT := EK → DSt → Mm → (Bool → Mm → Prop) → Prop
abbrev DA := EK → DSt → Mm → (List D → Mm → Prop) → Prop

/-- a list that is read alone: known to the object, or of the written part -/
def RoL (K : PySem.W.Frag) (H : Hp) (a : Addr) (xs : List V) : Prop := (∃ o, H a = some (.frz o (.lst xs))) ∨
    ∃ (o : Obj) (its : Array Value) (n : Nat), K.lookup a = some o ∧ o.cls = .type "list" ∧ o.dict = none ∧ o.data = .seq its n ∧ its.size ≤ sizeLine ∧ Vals xs its.toList
theorem RoL.sq {K : PySem.W.Frag} {H : Hp} {a : Addr} {xs : List V} (h : RoL K H a xs) : SqL K H a xs := by
  rcases h with h | h
  · exact .inl (.inr h)
  · exact .inr h
/-- a code object's table -/
def TabG (H : Hp) (P : Addr) : Prop := ∃ ps : Array Value, H P = some (.tbl ps) ∧ TriplesOk ps.toList
/-! ### what a datum is in the abstract heap -/
mutual
inductive Den (K : PySem.W.Frag) (H : Hp) : D → V → Prop
  | non : Den K H .non .non
  | bl (b : Bool) : Den K H (.bl b) (.bl b)
  | int (i : Int) : Den K H (.int i) (.int i)
  | str (x : Str) : Den K H (.str x) (.str x)
  | ty (n : String) : Den K H (.ty n) (.ty n)
  | ref (a : Addr) : Den K H (.ref a) (.ref a)
  | tup {a : Addr} {xs : List D} {vs : List V} : SqT K H a vs → DenL K H xs vs → Den K H (.tup xs) (.ref a)
  | rol {a : Addr} {xs : List D} {vs : List V} : RoL K H a vs → DenL K H xs vs → Den K H (.rol xs) (.ref a)
inductive DenL (K : PySem.W.Frag) (H : Hp) : List D → List V → Prop
  | nil : DenL K H [] []
  | cons {d : D} {v : V} {ds : List D} {vs : List V} : Den K H d v → DenL K H ds vs → DenL K H (d :: ds) (v :: vs)
end
/-- what is only read stays: tuples, known lists, tables -/
structure Ext (K : PySem.W.Frag) (H H' : Hp) : Prop where
  tup : ∀ a xs, SqT K H a xs → SqT K H' a xs
  rol : ∀ a xs, RoL K H a xs → RoL K H' a xs
  tab : ∀ P, TabG H P → TabG H' P
section
variable {K : PySem.W.Frag} {H H' H2 : Hp}
theorem Ext.refl : Ext K H H := ⟨fun _ _ h => h, fun _ _ h => h, fun _ h => h⟩
theorem Ext.trans (h : Ext K H H') (k : Ext K H' H2) : Ext K H H2 := ⟨fun a xs z => k.1 a xs (h.1 a xs z), fun a xs z => k.2 a xs (h.2 a xs z), fun P z => k.3 P (h.3 P z)⟩
theorem Ext.upd_of {a : Addr} {o : HO} (h : ∀ u, H a = some u → Mut (some u)) : Ext K H (upd H a o) := by
  have ne : ∀ b u, H b = some u → ¬ Mut (some u) → b ≠ a := fun b u e n z => n (h u (by rw [← z]; exact e))
  refine ⟨fun b xs z => ?_, fun b xs z => ?_, fun P z => ?_⟩
  · rcases z with (z | ⟨u, z⟩) | z
    · exact .inl (.inl (by rw [upd_ne (ne b _ z fun x => x)]; exact z))
    · exact .inl (.inr ⟨u, by rw [upd_ne (ne b _ z fun x => x)]; exact z⟩)
    · exact .inr z
  · rcases z with ⟨u, z⟩ | z
    · exact .inl ⟨u, by rw [upd_ne (ne b _ z fun x => x)]; exact z⟩
    · exact .inr z
  · obtain ⟨ps, e, t⟩ := z
    exact ⟨ps, by rw [upd_ne (ne P _ e fun x => x)]; exact e, t⟩
theorem Ext.upd_new {a : Addr} {o : HO} (h : H a = none) : Ext K H (upd H a o) := Ext.upd_of fun u e => by rw [h] at e; cases e
theorem Ext.upd_mut {a : Addr} {o : HO} (h : Mut (H a)) : Ext K H (upd H a o) := Ext.upd_of fun u e => by rw [← e]; exact h
mutual
theorem Den.mono (e : Ext K H H') : ∀ {d : D} {v : V}, Den K H d v → Den K H' d v
  | _, _, .non => .non
  | _, _, .bl b => .bl b
  | _, _, .int i => .int i
  | _, _, .str x => .str x
  | _, _, .ty n => .ty n
  | _, _, .ref a => .ref a
  | _, _, .tup s t => .tup (e.tup _ _ s) (DenL.mono e t)
  | _, _, .rol s t => .rol (e.rol _ _ s) (DenL.mono e t)
theorem DenL.mono (e : Ext K H H') : ∀ {ds : List D} {vs : List V}, DenL K H ds vs → DenL K H' ds vs
  | _, _, .nil => .nil
  | _, _, .cons h t => .cons (Den.mono e h) (DenL.mono e t)
end
theorem DenL.length : ∀ {ds : List D} {vs : List V}, DenL K H ds vs → ds.length = vs.length
  | _, _, .nil => rfl
  | _, _, .cons _ t => congrArg (· + 1) (DenL.length t)
theorem DenL.get : ∀ {ds : List D} {vs : List V} {i : Nat} {d : D}, DenL K H ds vs → ds[i]? = some d → ∃ v, vs[i]? = some v ∧ Den K H d v
  | _, _, _, _, .nil, h => by simp at h
  | _, _, 0, _, .cons h _, e => by simp at e; subst e; exact ⟨_, rfl, h⟩
  | _, _, i + 1, _, .cons _ t, e => by simp at e ⊢; exact DenL.get t e
theorem DenL.get' : ∀ {ds : List D} {vs : List V} {i : Nat} {v : V}, DenL K H ds vs → vs[i]? = some v → ∃ d, ds[i]? = some d ∧ Den K H d v
  | _, _, _, _, .nil, h => by simp at h
  | _, _, 0, _, .cons h _, e => by simp at e; subst e; exact ⟨_, rfl, h⟩
  | _, _, i + 1, _, .cons _ t, e => by simp at e ⊢; exact DenL.get' t e
theorem DenL.append : ∀ {ds es : List D} {vs ws : List V}, DenL K H ds vs → DenL K H es ws → DenL K H (ds ++ es) (vs ++ ws)
  | _, _, _, _, .nil, h => h
  | _, _, _, _, .cons a t, h => .cons a (DenL.append t h)
theorem DenL.take : ∀ {ds : List D} {vs : List V} (n : Nat), DenL K H ds vs → DenL K H (ds.take n) (vs.take n)
  | _, _, 0, _ => by simp; exact .nil
  | _, _, _ + 1, .nil => by simp; exact .nil
  | _, _, n + 1, .cons a t => .cons a (DenL.take n t)
theorem DenL.drop : ∀ {ds : List D} {vs : List V} (n : Nat), DenL K H ds vs → DenL K H (ds.drop n) (vs.drop n)
  | _, _, 0, h => h
  | _, _, _ + 1, .nil => by simp; exact .nil
  | _, _, n + 1, .cons _ t => DenL.drop n t
theorem DenL.set : ∀ {ds : List D} {vs : List V} (n : Nat) {d : D} {v : V}, DenL K H ds vs → Den K H d v → DenL K H (ds.set n d) (vs.set n v)
  | _, _, _, _, _, .nil, _ => .nil
  | _, _, 0, _, _, .cons _ t, h => .cons h t
  | _, _, n + 1, _, _, .cons a t, h => .cons a (DenL.set n t h)
theorem DenL.one {ds : List D} {v : V} (h : DenL K H ds [v]) : ∃ d, ds = [d] ∧ Den K H d v := by
  cases h with | cons a t => cases t; exact ⟨_, rfl, a⟩
theorem DenL.of_get : ∀ {ds : List D} {vs : List V}, ds.length = vs.length → (∀ (i : Nat) d v, ds[i]? = some d → vs[i]? = some v → Den K H d v) → DenL K H ds vs
  | [], [], _, _ => .nil
  | [], _ :: _, h, _ => by cases h
  | _ :: _, [], h, _ => by cases h
  | d :: ds, v :: vs, h, k => .cons (k 0 d v rfl rfl) (DenL.of_get (Nat.succ.inj h) fun i a b x y => k (i + 1) a b x y)
theorem DenL.reverse {ds : List D} {vs : List V} (h : DenL K H ds vs) : DenL K H ds.reverse vs.reverse := by
  induction ds generalizing vs with
  | nil => cases h; exact .nil
  | cons d ds ih => cases h with | cons a t => rw [List.reverse_cons, List.reverse_cons]; exact (ih t).append (.cons a .nil)
theorem DenL.eraseIdx : ∀ {ds : List D} {vs : List V} (i : Nat), DenL K H ds vs → DenL K H (ds.eraseIdx i) (vs.eraseIdx i)
  | _, _, _, .nil => by simp; exact .nil
  | _, _, 0, .cons _ t => t
  | _, _, i + 1, .cons a t => .cons a (DenL.eraseIdx i t)
theorem DenL.dropLast {ds : List D} {vs : List V} (h : DenL K H ds vs) : DenL K H ds.dropLast vs.dropLast := by
  rw [List.dropLast_eq_take, List.dropLast_eq_take, h.length]; exact h.take _
end

/-- the slots -/
def DenS (K : PySem.W.Frag) (H : Hp) (δ : DSt) (σ : List (Option V)) : Prop := δ.length = σ.length ∧ ∀ (i : Nat) d, δ[i]? = some (some d) → ∃ v, σ[i]? = some (some v) ∧ Den K H d v
def FsRel (K : PySem.W.Frag) (H : Hp) : List (Str × D) → List (Str × V) → Prop
  | [], [] => True
  | (f, d) :: r, (g, v) :: s => f = g ∧ Den K H d v ∧ FsRel K H r s
  | _, _ => False
mutual
/-- a datum as a dict's key (no bools) -/
def keyOf : D → Option NestedKey
  | .non => some .none
  | .int i => some (.num i)
  | .str x => some (.text x)
  | .tup xs => match keysOf xs with
    | some ks => some (.tup ks)
    | none => none
  | _ => none
def keysOf : List D → Option (List NestedKey)
  | [] => some []
  | x :: xs => match keyOf x, keysOf xs with
    | some k, some ks => some (k :: ks)
    | _, _ => none
end
/-- a dict's raw entries, its keys tuples -/
def dctF (P : Program) (w : World) (a : Addr) (xs : List (NestedKey × Addr × Value)) : Heap → Prop := fun h =>
  ∃ o es ep, h.get? a = some o ∧ o.ExactDict ∧ o.data = .dict es ep ∧ es.toList = xs.map (entryOfKey (nestedKind P w))
/-- an entry -/
def EntOk (K : PySem.W.Frag) (H : Hp) (p : D × D) (x : NestedKey × Addr × Value) : Prop :=
  Den K H p.1 (.ref x.2.1) ∧ keyOf p.1 = some x.1 ∧ x.1.depth ≤ 8 ∧ ∃ v, RelV v x.2.2 ∧ Den K H p.2 v
/-- a dict whose keys are ints and texts; one whose keys are tuples -/
def DctOk (P : Program) (w : World) (K : PySem.W.Frag) (H : Hp) (a : Addr) (kvs : List (D × D)) : Prop :=
  (∃ vs : List (Key × V), H a = some (.dK vs) ∧ Paired (fun (p : D × D) (q : Key × V) => Den K H p.1 (kV q.1) ∧ Den K H p.2 q.2) kvs vs) ∨
  (a == sysModules) = false ∧ kvs.length ≤ sizeLine ∧ ∃ xs : List (NestedKey × Addr × Value), H a = some (.ext (dctF P w a xs)) ∧ (xs.map (·.1)).Nodup ∧ Paired (EntOk K H) kvs xs
/-- program, world, written part, the code tables that are known -/
structure Wd where
  P : Program
  w : World
  K : PySem.W.Frag
  T : List Addr
def MOk (W : Wd) (H : Hp) (a : Addr) : MO → Prop
  | .lst ds => ∃ vs, H a = some (.lst vs) ∧ DenL W.K H ds vs
  | .dct kvs => DctOk W.P W.w W.K H a kvs
  | .ins C dx fs => ∃ fvs, H a = some (.ins C dx fvs) ∧ FsRel W.K H fs fvs
structure Mr (W : Wd) (H : Hp) (M : Mm) : Prop where
  obj : ∀ a o, M a = some o → MOk W H a o
  tab : ∀ p ∈ W.T, TabG H p
section
variable {W : Wd} {K : PySem.W.Frag} {H H' : Hp} {M N : Mm}
theorem DenS.mono {δ : DSt} {σ : List (Option V)} (h : DenS K H δ σ) (e : Ext K H H') : DenS K H' δ σ :=
  ⟨h.1, fun i d q => let ⟨v, a, b⟩ := h.2 i d q; ⟨v, a, b.mono e⟩⟩
theorem DenS.set {δ : DSt} {σ : List (Option V)} {i : Nat} {d : D} {v : V} (h : DenS K H δ σ) (k : Den K H d v) : DenS K H (δ.set i (some d)) (σ.set i (some v)) := by
  refine ⟨by simp [h.1], fun j e q => ?_⟩
  by_cases z : i = j
  · subst z
    rw [List.getElem?_set_self'] at q
    cases r : δ[i]? with
    | none => rw [r] at q; cases q
    | some x =>
      rw [r] at q
      cases q
      have hi : i < σ.length := by rw [← h.1]; exact (List.getElem?_eq_some_iff.mp r).1
      exact ⟨v, by rw [List.getElem?_set_self hi], k⟩
  · rw [List.getElem?_set_ne z] at q ⊢; exact h.2 j e q
theorem DenS.setN {δ : DSt} {σ : List (Option V)} {i : Nat} {v : Option V} (h : DenS K H δ σ) : DenS K H (δ.set i none) (σ.set i v) := by
  refine ⟨by simp [h.1], fun j e q => ?_⟩
  by_cases z : i = j
  · subst z
    rw [List.getElem?_set_self'] at q
    cases r : δ[i]? with
    | none => rw [r] at q; cases q
    | some x => rw [r] at q; cases q
  · rw [List.getElem?_set_ne z] at q ⊢; exact h.2 j e q
theorem FsRel.mono (e : Ext K H H') : ∀ {fs : List (Str × D)} {gs : List (Str × V)}, FsRel K H fs gs → FsRel K H' fs gs
  | [], [], _ => trivial
  | [], _ :: _, h => h.elim
  | _ :: _, [], h => h.elim
  | (_, _) :: _, (_, _) :: _, h => ⟨h.1, h.2.1.mono e, h.2.2.mono e⟩
/-- what an object is leans on its own place and the tuples -/
theorem MOk.mono {a : Addr} {o : MO} (h : MOk W H a o) (e : Ext W.K H H') (k : ∀ u, H a = some u → H' a = some u) : MOk W H' a o := by
  cases o with
  | lst ds => obtain ⟨vs, p, q⟩ := h; exact ⟨vs, k _ p, q.mono e⟩
  | dct kvs =>
    rcases h with ⟨vs, p, q⟩ | ⟨ns, z, xs, p, n, q⟩
    · exact .inl ⟨vs, k _ p, L2.Paired.mapP q fun _ _ r => ⟨r.1.mono e, r.2.mono e⟩⟩
    · exact .inr ⟨ns, z, xs, k _ p, n, L2.Paired.mapP q fun _ _ r => ⟨r.1.mono e, r.2.1, r.2.2.1, let ⟨v, r1, r2⟩ := r.2.2.2; ⟨v, r1, r2.mono e⟩⟩⟩
  | ins C dx fs => obtain ⟨fvs, p, q⟩ := h; exact ⟨fvs, k _ p, q.mono e⟩
theorem Mr.sub (h : Mr W H M) (s : Sub N M) : Mr W H N := ⟨fun a o e => h.obj a o (s a o e), h.tab⟩
/-- a new object -/
theorem Mr.new {p : Addr} {u : HO} {o : MO} (h : Mr W H M) (n : H p = none) (k : MOk W (upd H p u) p o) : Mr W (upd H p u) (mset M p o) := ⟨fun a x e => by
  by_cases z : a = p
  · subst z; rw [mset_same] at e; cases e; exact k
  · rw [mset_ne z] at e
    exact (h.obj a x e).mono (Ext.upd_new n) fun _ q => (upd_ne z).trans q, fun p m => (Ext.upd_new (K := W.K) n).tab p (h.tab p m)⟩
/-- a new object that is no mutable one -/
theorem Mr.newT {p : Addr} {u : HO} (h : Mr W H M) (n : H p = none) : Mr W (upd H p u) M := ⟨fun a x e =>
  (h.obj a x e).mono (Ext.upd_new n) fun _ q => (upd_ne (ne_of_none q n)).trans q, fun p m => (Ext.upd_new (K := W.K) n).tab p (h.tab p m)⟩
/-- an object is written -/
theorem Mr.put {p : Addr} {u : HO} {o : MO} (h : Mr W H M) (n : Mut (H p)) (k : MOk W (upd H p u) p o) : Mr W (upd H p u) (mset M p o) := ⟨fun a x e => by
  by_cases z : a = p
  · subst z; rw [mset_same] at e; cases e; exact k
  · rw [mset_ne z] at e
    exact (h.obj a x e).mono (Ext.upd_mut n) fun _ q => (upd_ne z).trans q, fun p m => (Ext.upd_mut (K := W.K) n).tab p (h.tab p m)⟩
/-- what is free in the heap is free in the memory -/
theorem Mr.free {p : Addr} (h : Mr W H M) (n : H p = none) : M p = none := by
  cases q : M p with
  | none => rfl
  | some o =>
    have z := h.obj p o q
    cases o with
    | lst ds => obtain ⟨vs, e, _⟩ := z; rw [n] at e; cases e
    | dct kvs =>
      rcases z with ⟨vs, e, _⟩ | ⟨_, _, vs, e, _⟩
      · rw [n] at e; cases e
      · rw [n] at e; cases e
    | ins C dx fs => obtain ⟨vs, e, _⟩ := z; rw [n] at e; cases e
end
end Lk
set_option Elab.async false
set_option linter.all false
set_option maxRecDepth 100000
/-! Lark, part 2: readings of expressions over data. -/
namespace Lk
open PySem PySem.Spec PyProof.Rows L2

theorem PEw {X : Cx} {e : Expr} {t t' : TE} (h : PE X e t) (k : ∀ σ H Q, t' σ H Q → t σ H Q) : PE X e t' := ⟨fun pins s σ H Q I z => h.run pins s σ H Q I (k σ H Q z)⟩
theorem PTw {X : Cx} {e : Expr} {t t' : TT} (h : PT X e t) (k : ∀ σ H Q, t' σ H Q → t σ H Q) : PT X e t' := ⟨fun pins s σ H Q I z => h.run pins s σ H Q I (k σ H Q z)⟩
theorem PWw {X : Cx} {e : Expr} {t t' : TT} (h : PW X e t) (k : ∀ σ H Q, t' σ H Q → t σ H Q) : PW X e t' := ⟨fun wh pins s σ H Q I z => h.run wh pins s σ H Q I (k σ H Q z)⟩
theorem PAw {X : Cx} {es : List Expr} {t t' : TA} (h : PA X es t) (k : ∀ σ H Q, t' σ H Q → t σ H Q) : PA X es t' := ⟨fun po pins s σ H Q I z => h.run po pins s σ H Q I (k σ H Q z)⟩

section
variable (W : Wd) (ex : EK)
/-- what a reading over data means over the heap -/
def tD (r : DE) : TE := fun σ H Q => ∃ δ M q, DenS W.K H δ σ ∧ Mr W H M ∧ r ex δ M q ∧ ∀ v H' d M', Ext W.K H H' → Den W.K H' d v → Mr W H' M' → q d M' → Q v H'
def tDT (r : DT) : TT := fun σ H Q => ∃ δ M q, DenS W.K H δ σ ∧ Mr W H M ∧ r ex δ M q ∧ ∀ b H' M', Ext W.K H H' → Mr W H' M' → q b M' → Q b H'
def tDA (r : DA) : TA := fun σ H Q => ∃ δ M q, DenS W.K H δ σ ∧ Mr W H M ∧ r ex δ M q ∧ ∀ vs H' ds M', Ext W.K H H' → DenL W.K H' ds vs → Mr W H' M' → q ds M' → Q vs H'
end
abbrev D1 := D → Mm → Kd → Prop
abbrev D2 := D → D → Mm → Kd → Prop
abbrev DL := List D → Mm → Kd → Prop
section
variable (W : Wd)
def r1D (r : D1) : V → Hp → VK → Prop := fun x H Q => ∃ d M q, Den W.K H d x ∧ Mr W H M ∧ r d M q ∧ ∀ v H' d' M', Ext W.K H H' → Den W.K H' d' v → Mr W H' M' → q d' M' → Q v H'
def r2D (r : D2) : R2 := fun x y H Q => ∃ d e M q, Den W.K H d x ∧ Den W.K H e y ∧ Mr W H M ∧ r d e M q ∧ ∀ v H' d' M', Ext W.K H H' → Den W.K H' d' v → Mr W H' M' → q d' M' → Q v H'
def rLD (r : DL) : List V → Hp → VK → Prop := fun xs H Q => ∃ ds M q, DenL W.K H ds xs ∧ Mr W H M ∧ r ds M q ∧ ∀ v H' d' M', Ext W.K H H' → Den W.K H' d' v → Mr W H' M' → q d' M' → Q v H'
end

/-! ### the readings -/
def rVar (i : Nat) : DE := fun _ δ M q => ∃ d, δ[i]? = some (some d) ∧ q d M
def rCst (d : D) : DE := fun _ _ M q => q d M
def rBin (o : D2) (a b : DE) : DE := fun ex δ M q => a ex δ M fun x M1 => b ex δ M1 fun y M2 => o x y M2 q
def rUn (o : D1) (a : DE) : DE := fun ex δ M q => a ex δ M fun x M1 => o x M1 q
def rNil : DA := fun _ _ M q => q [] M
def rCons (a : DE) (b : DA) : DA := fun ex δ M q => a ex δ M fun x M1 => b ex δ M1 fun xs M2 => q (x :: xs) M2
def rTup (a : DA) : DE := fun ex δ M q => a ex δ M fun xs M1 => xs.length ≤ sizeLine ∧ q (.tup xs) M1
def rLst (a : DA) : DE := fun ex δ M q => a ex δ M fun xs M1 => xs.length ≤ sizeLine ∧ ∀ p, M1 p = none → q (.ref p) (mset M1 p (.lst xs))
def rArg (r : DL) (a : DA) : DE := fun ex δ M q => a ex δ M fun xs M1 => r xs M1 q
/-- a value that is a bool, as a test -/
def rTB (a : DE) : DT := fun ex δ M q => a ex δ M fun d M1 => ∃ k, d = .bl k ∧ q k M1
/-- a value's truth -/
def Tru (M : Mm) : D → Bool → Prop
  | .non, k => k = false
  | .bl b, k => k = b
  | .int i, k => k = (i != 0)
  | .str y, k => y.length ≤ sizeLine ∧ k = ((y.length : Int) != 0)
  | .tup xs, k => k = !xs.isEmpty
  | .rol xs, k => k = !xs.isEmpty
  | .ref a, k => (∃ xs, M a = some (.lst xs) ∧ k = !xs.isEmpty)
  | .ty _, _ => False
def rTru (a : DE) : DT := fun ex δ M q => a ex δ M fun d M1 => ∃ k, Tru M1 d k ∧ q k M1
def rAnd (a b : DT) : DT := fun ex δ M q => a ex δ M fun c M1 => if c = true then b ex δ M1 q else q false M1
def rOr (a b : DT) : DT := fun ex δ M q => a ex δ M fun c M1 => if c = true then q true M1 else b ex δ M1 q
def rNot (a : DT) : DT := fun ex δ M q => a ex δ M fun c M1 => q (!c) M1
def rAndV (a b : DE) : DE := fun ex δ M q => a ex δ M fun d M1 => ∃ c, d = .bl c ∧ if c = true then b ex δ M1 q else q (.bl false) M1
def rOrV (a b : DE) : DE := fun ex δ M q => a ex δ M fun d M1 => ∃ c, d = .bl c ∧ if c = true then q (.bl true) M1 else b ex δ M1 q
def rNotV (a : DE) : DE := fun ex δ M q => a ex δ M fun d M1 => ∃ c, d = .bl c ∧ q (.bl (!c)) M1
def rIf (t : DT) (a b : DE) : DE := fun ex δ M q => t ex δ M fun c M1 => if c = true then a ex δ M1 q else b ex δ M1 q
/-- a op b op' c -/
def rChain (o o' : D2) (a b c : DE) : DE := fun ex δ M q => a ex δ M fun x M1 => b ex δ M1 fun y M2 => o x y M2 fun z M3 => ∃ k, z = .bl k ∧
  if k = true then c ex δ M3 fun w M4 => o' y w M4 q else q (.bl false) M3

section
variable {X : Cx} {T : List Addr} {ex : EK} {a b c : Expr} {ra rb rc : DE} {ta tb : DT} {pos : Pos}
/-- the world of a context -/
abbrev wd (X : Cx) (T : List Addr) : Wd := ⟨X.prog, X.w, X.K, T⟩
/-- e reads as r -/
abbrev EP' (X : Cx) (T : List Addr) (ex : EK) (e : Expr) (r : DE) : Prop := PE X e (tD (wd X T) ex r)
abbrev TP' (X : Cx) (T : List Addr) (ex : EK) (e : Expr) (r : DT) : Prop := PT X e (tDT (wd X T) ex r)
abbrev WP' (X : Cx) (T : List Addr) (ex : EK) (e : Expr) (r : DT) : Prop := PW X e (tDT (wd X T) ex r)
abbrev AP' (X : Cx) (T : List Addr) (ex : EK) (es : List Expr) (r : DA) : Prop := PA X es (tDA (wd X T) ex r)

theorem de_var {i : Nat} {x : Str} (hN : X.N[i]? = some x) (hv : Vis X.env.scope x) (hd : (x == ("__debug__" : Str)) = false) (hcd : (x == ("__classdict__" : Str)) = false) : EP' X T ex (.Name x pos) (rVar i) :=
  PEw (pe_var (i := i) hN hv hd hcd) fun σ H Q ⟨δ, M, q, hδ, hM, ⟨d, e, z⟩, k⟩ => let ⟨v, e1, h1⟩ := hδ.2 i d e; ⟨v, e1, k v H d M .refl h1 hM z⟩
theorem de_cst {d : D} {v : V} {e : Expr} (h : PE X e (tC v)) (hd : ∀ H, Den X.K H d v) : EP' X T ex e (rCst d) :=
  PEw h fun σ H Q ⟨δ, M, q, hδ, hM, z, k⟩ => k v H d M .refl (hd H) hM z
theorem de_int {i : Int} {j : Nat} : EP' X T ex (.Constant (.int i) j pos) (rCst (.int i)) := de_cst pe_int fun _ => .int i
theorem de_bl {i : Bool} {j : Nat} : EP' X T ex (.Constant (.bool i) j pos) (rCst (.bl i)) := de_cst pe_bl fun _ => .bl i
theorem de_non {j : Nat} : EP' X T ex (.Constant .none j pos) (rCst .non) := de_cst pe_non fun _ => .non
theorem de_str {i : Str} {j : Nat} : EP' X T ex (.Constant (.str i) j pos) (rCst (.str i)) := de_cst pe_str fun _ => .str i
theorem tD_bin {o : D2} {r : R2} (σ : List (Option V)) (H : Hp) (Q : VK) (ho : ∀ x y H Q, r2D (wd X T) o x y H Q → r x y H Q) (h : tD (wd X T) ex (rBin o ra rb) σ H Q) : tOp r (tD (wd X T) ex ra) (tD (wd X T) ex rb) σ H Q := by
  obtain ⟨δ, M, q, hδ, hM, z, k⟩ := h
  exact ⟨δ, M, _, hδ, hM, z, fun v H1 d M1 e1 d1 m1 z1 => ⟨δ, M1, _, hδ.mono e1, m1, z1, fun v2 H2 d2 M2 e2 k2 m2 z2 =>
    ho _ _ _ _ ⟨d, d2, M2, q, d1.mono e2, k2, m2, z2, fun v3 H3 d3 M3 e3 k3 m3 z3 => k v3 H3 d3 M3 ((e1.trans e2).trans e3) k3 m3 z3⟩⟩⟩
theorem de_bin {op : Operator} {o : D2} (ho : OpR X (binaryOp op) (r2D (wd X T) o)) (ha : EP' X T ex a ra) (hb : EP' X T ex b rb) : EP' X T ex (.BinOp a op b pos) (rBin o ra rb) :=
  PEw (pe_op ho ha hb) fun σ H Q h => tD_bin σ H Q (fun _ _ _ _ z => z) h
theorem de_cmp {op : CmpOp} {o : D2} (ho : OpR X (compareOp op) (r2D (wd X T) o)) (ha : EP' X T ex a ra) (hb : EP' X T ex b rb) (hm : behindInMarks op b = false) : EP' X T ex (.Compare a [op] [b] pos) (rBin o ra rb) :=
  PEw (pe_cmpR ho ha hb hm) fun σ H Q h => tD_bin σ H Q (fun _ _ _ _ z => z) h
theorem de_cmpT {op : CmpOp} {o : D2} (ho : OpR X (compareOp op) (r2D (wd X T) o)) (ha : EP' X T ex a ra) (hb : EP' X T ex b rb) (hm : behindInMarks op b = false) : TP' X T ex (.Compare a [op] [b] pos) (rTB (rBin o ra rb)) :=
  PTw (pt_cmpR ho ha hb hm) fun σ H Q ⟨δ, M, q, hδ, hM, z, k⟩ => by
    refine tD_bin σ H _ (fun _ _ _ _ z => z) ⟨δ, M, _, hδ, hM, z, fun v H1 d M1 e1 d1 m1 ⟨c, ed, z1⟩ => ?_⟩
    subst ed; cases d1
    exact ⟨c, rfl, k c H1 M1 e1 m1 z1⟩
theorem de_un {op : UnaryOp} {o : D1} (ho : UnR X (unaryOp op) (r1D (wd X T) o)) (ha : EP' X T ex a ra) : EP' X T ex (.UnaryOp op a pos) (rUn o ra) :=
  PEw (pe_un ho ha) fun σ H Q ⟨δ, M, q, hδ, hM, z, k⟩ => ⟨δ, M, _, hδ, hM, z, fun v H1 d M1 e1 d1 m1 z1 => ⟨d, M1, q, d1, m1, z1, fun v3 H3 d3 M3 e3 k3 m3 z3 => k v3 H3 d3 M3 (e1.trans e3) k3 m3 z3⟩⟩
theorem tD_chain {o o' : D2} (σ : List (Option V)) (H : Hp) (Q : VK) (h : tD (wd X T) ex (rChain o o' ra rb rc) σ H Q) : tChain (r2D (wd X T) o) (r2D (wd X T) o') (tD (wd X T) ex ra) (tD (wd X T) ex rb) (tD (wd X T) ex rc) σ H Q := by
  obtain ⟨δ, M, q, hδ, hM, z, k⟩ := h
  refine ⟨δ, M, _, hδ, hM, z, fun v H1 d M1 e1 d1 m1 z1 => ⟨δ, M1, _, hδ.mono e1, m1, z1, fun v2 H2 d2 M2 e2 k2 m2 z2 => ⟨d, d2, M2, _, d1.mono e2, k2, m2, z2, fun v3 H3 d3 M3 e3 k3 m3 z3 => ?_⟩⟩⟩
  obtain ⟨c, rfl, z3⟩ := z3
  cases k3
  refine ⟨c, rfl, ?_⟩
  have e03 := (e1.trans e2).trans e3
  cases c with
  | true =>
    rw [if_pos rfl] at z3 ⊢
    exact ⟨δ, M3, _, hδ.mono e03, m3, z3, fun v4 H4 d4 M4 e4 k4 m4 z4 => ⟨d2, d4, M4, q, k2.mono (e3.trans e4), k4, m4, z4, fun v5 H5 d5 M5 e5 k5 m5 z5 => k v5 H5 d5 M5 ((e03.trans e4).trans e5) k5 m5 z5⟩⟩
  | false =>
    rw [if_neg Bool.false_ne_true] at z3 ⊢
    exact k _ _ _ _ e03 (.bl false) m3 z3
theorem de_chain {op op' : CmpOp} {o o' : D2} (ho : OpR X (compareOp op) (r2D (wd X T) o)) (ho' : OpR X (compareOp op') (r2D (wd X T) o')) (ha : EP' X T ex a ra) (hb : EP' X T ex b rb) (hc : EP' X T ex c rc)
    (hm : lastMarks [op, op'] [b, c] = false) : EP' X T ex (.Compare a [op, op'] [b, c] pos) (rChain o o' ra rb rc) :=
  PEw (pe_chain ho ho' ha hb hc hm) fun σ H Q h => tD_chain σ H Q h
theorem de_chainT {op op' : CmpOp} {o o' : D2} (ho : OpR X (compareOp op) (r2D (wd X T) o)) (ho' : OpR X (compareOp op') (r2D (wd X T) o')) (ha : EP' X T ex a ra) (hb : EP' X T ex b rb) (hc : EP' X T ex c rc)
    (hm : lastMarks [op, op'] [b, c] = false) : TP' X T ex (.Compare a [op, op'] [b, c] pos) (rTB (rChain o o' ra rb rc)) :=
  PTw (pt_chain ho ho' ha hb hc hm) fun σ H Q ⟨δ, M, q, hδ, hM, z, k⟩ => by
    refine tD_chain σ H _ ⟨δ, M, _, hδ, hM, z, fun v H1 d M1 e1 d1 m1 ⟨c, ed, z1⟩ => ?_⟩
    subst ed; cases d1
    exact ⟨c, rfl, k c H1 M1 e1 m1 z1⟩
/-! tests -/
theorem de_val (h : EP' X T ex a ra) (he : ∀ whole, isTrue a X.env whole = (do let v ← whole; standAt a.pos; holding [v] (truthy v))) : TP' X T ex a (rTB ra) :=
  PTw (pt_val h he) fun σ H Q ⟨δ, M, q, hδ, hM, z, k⟩ => ⟨δ, M, _, hδ, hM, z, fun v H1 d M1 e1 d1 m1 ⟨c, ed, z1⟩ => by subst ed; cases d1; exact ⟨c, rfl, k c H1 M1 e1 m1 z1⟩⟩
theorem tru_of {H : Hp} {M : Mm} {d : D} {v : V} {k : Bool} (hd : Den X.K H d v) (hM : Mr (wd X T) H M) (h : Tru M d k) : TruV X.K v H k := by
  cases hd with
  | non => exact h
  | bl b => exact h
  | int i => exact h
  | str x => exact h
  | ty n => exact h.elim
  | ref a =>
    obtain ⟨xs, e, rfl⟩ := h
    obtain ⟨vs, e1, l⟩ := hM.obj _ _ e
    refine .inl ⟨vs, SqL.of e1, ?_⟩
    have := l.length
    cases xs <;> cases vs <;> simp_all
  | tup s l =>
    refine .inr (.inl ⟨_, s, ?_⟩)
    have e : k = !_ := h
    rw [e]
    have := l.length
    rename_i xs vs
    cases xs <;> cases vs <;> simp_all
  | rol s l =>
    refine .inl ⟨_, s.sq, ?_⟩
    have e : k = !_ := h
    rw [e]
    have := l.length
    rename_i xs vs
    cases xs <;> cases vs <;> simp_all
theorem de_tru (h : EP' X T ex a ra) (he : ∀ whole, isTrue a X.env whole = (do let v ← whole; standAt a.pos; holding [v] (truthy v))) : TP' X T ex a (rTru ra) :=
  PTw (pt_truth h he) fun σ H Q ⟨δ, M, q, hδ, hM, z, k⟩ => ⟨δ, M, _, hδ, hM, z, fun v H1 d M1 e1 d1 m1 ⟨c, ed, z1⟩ => ⟨c, tru_of d1 m1 ed, k c H1 M1 e1 m1 z1⟩⟩
theorem dt_and1 (ha : TP' X T ex a ta) : WP' X T ex (.BoolOp .And [a] pos) ta := pw_and1 ha
theorem dt_or1 (ha : TP' X T ex a ta) : WP' X T ex (.BoolOp .Or [a] pos) ta := pw_or1 ha
theorem dt_and {r : List Expr} (ha : TP' X T ex a ta) (hb : WP' X T ex (.BoolOp .And (b :: r) pos) tb) : WP' X T ex (.BoolOp .And (a :: b :: r) pos) (rAnd ta tb) :=
  PWw (pw_and ha hb) fun σ H Q ⟨δ, M, q, hδ, hM, z, k⟩ => ⟨δ, M, _, hδ, hM, z, fun c H1 M1 e1 m1 z1 => by
    cases c with
    | true => rw [if_pos rfl] at z1 ⊢; exact ⟨δ, M1, q, hδ.mono e1, m1, z1, fun b H2 M2 e2 => k b H2 M2 (e1.trans e2)⟩
    | false => rw [if_neg Bool.false_ne_true] at z1 ⊢; exact k _ _ _ e1 m1 z1⟩
theorem dt_or {r : List Expr} (ha : TP' X T ex a ta) (hb : WP' X T ex (.BoolOp .Or (b :: r) pos) tb) : WP' X T ex (.BoolOp .Or (a :: b :: r) pos) (rOr ta tb) :=
  PWw (pw_or ha hb) fun σ H Q ⟨δ, M, q, hδ, hM, z, k⟩ => ⟨δ, M, _, hδ, hM, z, fun c H1 M1 e1 m1 z1 => by
    cases c with
    | true => rw [if_pos rfl] at z1 ⊢; exact k _ _ _ e1 m1 z1
    | false => rw [if_neg Bool.false_ne_true] at z1 ⊢; exact ⟨δ, M1, q, hδ.mono e1, m1, z1, fun b H2 M2 e2 => k b H2 M2 (e1.trans e2)⟩⟩
theorem dt_not (ha : TP' X T ex a ta) : TP' X T ex (.UnaryOp .Not a pos) (rNot ta) :=
  PTw (pt_not ha) fun σ H Q ⟨δ, M, q, hδ, hM, z, k⟩ => ⟨δ, M, _, hδ, hM, z, fun c H1 M1 e1 m1 z1 => k _ _ _ e1 m1 z1⟩
theorem de_one {op : BoolOp} (h : EP' X T ex a ra) : EP' X T ex (.BoolOp op [a] pos) ra := pe_one h
theorem de_and {r : List Expr} (ha : EP' X T ex a ra) (hb : EP' X T ex (.BoolOp .And (b :: r) pos) rb) : EP' X T ex (.BoolOp .And (a :: b :: r) pos) (rAndV ra rb) :=
  PEw (pe_and ha hb) fun σ H Q ⟨δ, M, q, hδ, hM, z, k⟩ => ⟨δ, M, _, hδ, hM, z, fun v H1 d M1 e1 d1 m1 ⟨c, ed, z1⟩ => by
    subst ed; cases d1
    refine ⟨c, rfl, ?_⟩
    cases c with
    | true => rw [if_pos rfl] at z1 ⊢; exact ⟨δ, M1, q, hδ.mono e1, m1, z1, fun v H2 d M2 e2 => k v H2 d M2 (e1.trans e2)⟩
    | false => rw [if_neg Bool.false_ne_true] at z1 ⊢; exact k _ _ _ _ e1 (.bl false) m1 z1⟩
theorem de_or {r : List Expr} (ha : EP' X T ex a ra) (hb : EP' X T ex (.BoolOp .Or (b :: r) pos) rb) : EP' X T ex (.BoolOp .Or (a :: b :: r) pos) (rOrV ra rb) :=
  PEw (pe_or ha hb) fun σ H Q ⟨δ, M, q, hδ, hM, z, k⟩ => ⟨δ, M, _, hδ, hM, z, fun v H1 d M1 e1 d1 m1 ⟨c, ed, z1⟩ => by
    subst ed; cases d1
    refine ⟨c, rfl, ?_⟩
    cases c with
    | true => rw [if_pos rfl] at z1 ⊢; exact k _ _ _ _ e1 (.bl true) m1 z1
    | false => rw [if_neg Bool.false_ne_true] at z1 ⊢; exact ⟨δ, M1, q, hδ.mono e1, m1, z1, fun v H2 d M2 e2 => k v H2 d M2 (e1.trans e2)⟩⟩
theorem de_not (ha : EP' X T ex a ra) : EP' X T ex (.UnaryOp .Not a pos) (rNotV ra) :=
  PEw (pe_not ha) fun σ H Q ⟨δ, M, q, hδ, hM, z, k⟩ => ⟨δ, M, _, hδ, hM, z, fun v H1 d M1 e1 d1 m1 ⟨c, ed, z1⟩ => by subst ed; cases d1; exact ⟨c, rfl, k _ _ _ _ e1 (.bl _) m1 z1⟩⟩
theorem de_if (ht : TP' X T ex c ta) (ha : EP' X T ex a ra) (hb : EP' X T ex b rb) : EP' X T ex (.IfExp c a b pos) (rIf ta ra rb) :=
  PEw (pe_ifExp ht ha hb) fun σ H Q ⟨δ, M, q, hδ, hM, z, k⟩ => ⟨δ, M, _, hδ, hM, z, fun c H1 M1 e1 m1 z1 => by
    cases c with
    | true => rw [if_pos rfl] at z1 ⊢; exact ⟨δ, M1, q, hδ.mono e1, m1, z1, fun v H2 d M2 e2 => k v H2 d M2 (e1.trans e2)⟩
    | false => rw [if_neg Bool.false_ne_true] at z1 ⊢; exact ⟨δ, M1, q, hδ.mono e1, m1, z1, fun v H2 d M2 e2 => k v H2 d M2 (e1.trans e2)⟩⟩
/-! arguments, displays -/
variable {es : List Expr} {rs : DA}
theorem da_nil : AP' X T ex [] rNil := PAw pa_nil fun σ H Q ⟨δ, M, q, hδ, hM, z, k⟩ => k _ _ _ _ .refl .nil hM z
theorem da_cons (ha : EP' X T ex a ra) (hr : AP' X T ex es rs) (hs : starEach (a :: es) X.env = (false, eval a X.env) :: starEach es X.env) : AP' X T ex (a :: es) (rCons ra rs) :=
  PAw (pa_cons ha hr hs) fun σ H Q ⟨δ, M, q, hδ, hM, z, k⟩ => ⟨δ, M, _, hδ, hM, z, fun v H1 d M1 e1 d1 m1 z1 => ⟨δ, M1, _, hδ.mono e1, m1, z1, fun vs H2 ds M2 e2 d2 m2 z2 =>
    k _ _ _ _ (e1.trans e2) (.cons (d1.mono e2) d2) m2 z2⟩⟩
theorem de_tup {x1 : Nat} (h : AP' X T ex es rs) : EP' X T ex (.Tuple es x1 pos) (rTup rs) :=
  PEw (pe_tup h) fun σ H Q ⟨δ, M, q, hδ, hM, z, k⟩ => ⟨δ, M, _, hδ, hM, z, fun vs H1 ds M1 e1 d1 m1 z1 => ⟨by rw [← d1.length]; exact z1.1, fun p hp =>
    k _ _ _ _ (e1.trans (Ext.upd_new hp)) (.tup (SqT.of upd_same) (d1.mono (Ext.upd_new hp))) (m1.newT hp) z1.2⟩⟩
theorem de_lst (h : AP' X T ex es rs) : EP' X T ex (.List es pos) (rLst rs) :=
  PEw (pe_lst h) fun σ H Q ⟨δ, M, q, hδ, hM, z, k⟩ => ⟨δ, M, _, hδ, hM, z, fun vs H1 ds M1 e1 d1 m1 z1 => ⟨by rw [← d1.length]; exact z1.1, fun p hp =>
    k _ _ _ _ (e1.trans (Ext.upd_new hp)) (.ref p) (m1.new (o := .lst ds) hp ⟨vs, upd_same, d1.mono (Ext.upd_new hp)⟩) (z1.2 p (m1.free hp))⟩⟩
/-! built-ins by name -/
variable {x : Str} {p : Pos} {id : String} {r : DL}
theorem tD_arg (σ : List (Option V)) (H : Hp) (Q : VK) (h : tD (wd X T) ex (rArg r rs) σ H Q) : tCB (rLD (wd X T) r) (tDA (wd X T) ex rs) σ H Q :=
  let ⟨δ, M, q, hδ, hM, z, k⟩ := h
  ⟨δ, M, _, hδ, hM, z, fun vs H1 ds M1 e1 d1 m1 z1 => ⟨ds, M1, q, d1, m1, z1, fun v H2 d M2 e2 => k v H2 d M2 (e1.trans e2)⟩⟩
theorem de_callB (hc : CallR X (.builtin id) (rLD (wd X T) r)) (hg : Gl X x) (hm : X.mg x = none) (hv : bootBuiltins x = some (.builtin id)) (ha : AP' X T ex (a :: es) rs) (hn : x ≠ "__name__") (hdb : (x == ("__debug__" : Str)) = false)
    (he : starEach (a :: es) X.env = (false, eval a X.env) :: starEach es X.env) (hpl : (backTo pos (starEach es X.env)).any (·.1) = false) : EP' X T ex (.Call (.Name x p) (a :: es) [] pos) (rArg r rs) :=
  PEw (pe_callB hc hg hm hv ha hn hdb he hpl) fun σ H Q h => tD_arg σ H Q h
theorem de_callTy (hc : CallR X (.type id) (rLD (wd X T) r)) (hg : Gl X x) (hm : X.mg x = none) (hv : bootBuiltins x = some (.type id)) (ha : AP' X T ex (a :: es) rs) (hn : x ≠ "__name__") (hdb : (x == ("__debug__" : Str)) = false)
    (he : starEach (a :: es) X.env = (false, eval a X.env) :: starEach es X.env) (hpl : (backTo pos (starEach es X.env)).any (·.1) = false) : EP' X T ex (.Call (.Name x p) (a :: es) [] pos) (rArg r rs) :=
  PEw (pe_callTy hc hg hm hv ha hn hdb he hpl) fun σ H Q h => tD_arg σ H Q h
end
end Lk
set_option Elab.async false
set_option linter.all false
set_option maxRecDepth 100000
set_option maxHeartbeats 1000000
/-! Lark, part 3: operators over data. -/
namespace Lk
open PySem PySem.Spec PyProof.Rows L2

/-! ### data as the library's data -/
mutual
inductive PD (M : Mm) : D → PyData → Prop
  | non : PD M .non .none
  | bl (b : Bool) : PD M (.bl b) (.bool b)
  | int (i : Int) : PD M (.int i) (.int i)
  | str (x : Str) : PD M (.str x) (.str x)
  | tup {xs : List D} {ds : List PyData} : PDL M xs ds → PD M (.tup xs) (.tuple ds)
  | rol {xs : List D} {ds : List PyData} : PDL M xs ds → PD M (.rol xs) (.list ds)
  | lst {a : Addr} {xs : List D} {ds : List PyData} : M a = some (.lst xs) → PDL M xs ds → PD M (.ref a) (.list ds)
inductive PDL (M : Mm) : List D → List PyData → Prop
  | nil : PDL M [] []
  | cons {d : D} {p : PyData} {ds : List D} {ps : List PyData} : PD M d p → PDL M ds ps → PDL M (d :: ds) (p :: ps)
end
section
variable {W : Wd} {H : Hp} {M : Mm}
mutual
theorem PD.dp (hM : Mr W H M) : ∀ {d : D} {p : PyData} {v : V}, PD M d p → Den W.K H d v → Dp W.K H v p
  | _, _, _, .non, .non => .non
  | _, _, _, .bl b, .bl _ => .bl b
  | _, _, _, .int i, .int _ => .int i
  | _, _, _, .str x, .str _ => .str x
  | _, _, _, .tup l, .tup s r => .tup s (PDL.dp hM l r)
  | _, _, _, .rol l, .rol s r => .lst s.sq (PDL.dp hM l r)
  | _, _, _, .lst e l, h => by
    cases h
    obtain ⟨vs, e1, r⟩ := hM.obj _ _ e
    exact .lst (SqL.of e1) (PDL.dp hM l r)
theorem PDL.dp (hM : Mr W H M) : ∀ {ds : List D} {ps : List PyData} {vs : List V}, PDL M ds ps → DenL W.K H ds vs → DpAll W.K H vs ps
  | _, _, _, .nil, .nil => .nil
  | _, _, _, .cons a b, .cons c d => .cons (PD.dp hM a c) (PDL.dp hM b d)
end
end
/-- a list's items: of a list in the memory, of one that is read alone -/
def lsOf (M : Mm) : D → Option (List D)
  | .ref a => match M a with
    | some (.lst xs) => some xs
    | _ => none
  | .rol xs => some xs
  | _ => none
/-- items of a list or a tuple -/
def itemsOf (M : Mm) : D → Option (List D)
  | .tup xs => some xs
  | d => lsOf M d
section
variable {W : Wd} {H : Hp} {M : Mm}
theorem lsOf_ok (hM : Mr W H M) {d : D} {v : V} {xs : List D} (h : lsOf M d = some xs) (hd : Den W.K H d v) : ∃ a vs, v = .ref a ∧ SqL W.K H a vs ∧ DenL W.K H xs vs := by
  cases hd with
  | ref a =>
    cases e : M a with
    | none => simp [lsOf, e] at h
    | some o =>
      cases o with
      | lst ys =>
        simp [lsOf, e] at h; subst h
        obtain ⟨vs, e1, r⟩ := hM.obj _ _ e
        exact ⟨a, vs, rfl, SqL.of e1, r⟩
      | dct _ => simp [lsOf, e] at h
      | ins _ _ _ => simp [lsOf, e] at h
  | rol s r => simp [lsOf] at h; subst h; exact ⟨_, _, rfl, s.sq, r⟩
  | _ => simp [lsOf] at h
theorem itemsOf_ok (hM : Mr W H M) {d : D} {v : V} {xs : List D} (h : itemsOf M d = some xs) (hd : Den W.K H d v) : ∃ a vs, v = .ref a ∧ (SqL W.K H a vs ∨ SqT W.K H a vs) ∧ DenL W.K H xs vs := by
  cases hd with
  | tup s r => simp [itemsOf] at h; subst h; exact ⟨_, _, rfl, .inr s, r⟩
  | ref a => obtain ⟨b, vs, e, s, r⟩ := lsOf_ok hM (show lsOf M (.ref a) = some xs from h) (.ref a); exact ⟨b, vs, e, .inl s, r⟩
  | rol s r => obtain ⟨b, vs, e, s, r⟩ := lsOf_ok hM (show lsOf M (.rol _) = some xs from h) (.rol s r); exact ⟨b, vs, e, .inl s, r⟩
  | _ => simp [itemsOf, lsOf] at h
end

/-! ### arithmetic -/
def MulOk (i j : Int) : Prop := IntMulOk i j
def PowOk (i j : Int) : Prop := 0 ≤ j ∧ (Builtin.Int.intBits i : Int) * j ≤ 2 ^ 27
def oAdd : D2 := fun x y M q => match x, y with
  | .int i, .int j => q (.int (i + j)) M
  | .str a, .str b => a.length + b.length ≤ sizeLine ∧ q (.str (a ++ b)) M
  | .tup xs, .tup ys => xs.length + ys.length ≤ sizeLine ∧ q (.tup (xs ++ ys)) M
  | .ref a, .ref b => ∃ xs ys, M a = some (.lst xs) ∧ M b = some (.lst ys) ∧ xs.length + ys.length ≤ sizeLine ∧ ∀ p, M p = none → q (.ref p) (mset M p (.lst (xs ++ ys)))
  | _, _ => False
def oI2 (C : Int → Int → Prop) (f : Int → Int → Int) : D2 := fun x y M q => match x, y with
  | .int i, .int j => C i j ∧ q (.int (f i j)) M
  | _, _ => False
def oSub : D2 := oI2 (fun _ _ => True) fun i j => i - j
def oMul : D2 := fun x y M q => match x, y with
  | .int i, .int j => MulOk i j ∧ q (.int (i * j)) M
  | .ref a, .int k => ∃ xs, M a = some (.lst xs) ∧ -(2 ^ 63) ≤ k ∧ k < 2 ^ 63 ∧ xs.length * k.toNat ≤ sizeLine ∧ ∀ p, M p = none → q (.ref p) (mset M p (.lst (List.replicate k.toNat xs).flatten))
  | _, _ => False
def oDiv : D2 := oI2 CDivW fun i j => i / j
def oMod : D2 := oI2 (fun _ j => 0 < j) fun i j => i % j
def oPow : D2 := oI2 PowOk fun i j => i ^ j.toNat
def oBAnd : D2 := oI2 (fun _ _ => True) Builtin.bitAnd
def oShr : D2 := oI2 (fun _ j => 0 ≤ j) fun i j => i / 2 ^ j.toNat
def oShl : D2 := oI2 CPow fun i j => i * 2 ^ j.toNat
def oNeg : D1 := fun x M q => match x with
  | .int i => q (.int (-i)) M
  | _ => False
/-! ### comparisons -/
def oRel (f : Int → Int → Bool) (neg : Bool) (o : CmpOp) : D2 := fun x y M q => match x, y with
  | .int i, .int j => q (.bl (f i j)) M
  | _, _ => False
def oEq (neg : Bool) : D2 := fun x y M q => match x, y with
  | .int i, .int j => q (.bl (if neg then !decide (i = j) else decide (i = j))) M
  | .str a, .str b => q (.bl (if neg then !decide (a = b) else decide (a = b))) M
  | .bl a, .bl b => q (.bl (if neg then !decide (a = b) else decide (a = b))) M
  | x, y => ∃ d e, PD M x d ∧ PD M y e ∧ SeqAt.shaped d = true ∧ SeqAt.shaped e = true ∧ q (.bl (if neg then !PyData.eqv d e else PyData.eqv d e)) M
/-- is, is not, of None, True, False -/
def isB : D → D → Bool
  | .non, .non => true
  | .bl a, .bl b => decide (a = b)
  | _, _ => false
def oIs (neg : Bool) : D2 := fun x y M q => (y = .non ∨ ∃ b, y = .bl b) ∧ q (.bl (if neg then !isB x y else isB x y)) M
/-- in, not in: of a list or tuple of data -/
def oIn (neg : Bool) : D2 := fun x y M q => ∃ ys d ds, itemsOf M y = some ys ∧ PD M x d ∧ PDL M ys ds ∧ SeqAt.shaped d = true ∧ SeqAt.shaped (.list ds) = true ∧ q (.bl (if neg then !ds.any fun z => PyData.eqv z d else ds.any fun z => PyData.eqv z d)) M

section
variable {X : Cx} {T : List Addr}
abbrev OP' (X : Cx) (T : List Addr) (f : Value → Value → Sem Value) (o : D2) : Prop := OpR X f (r2D (wd X T) o)
theorem op_i2 {op : Operator} {C : Int → Int → Prop} {f : Int → Int → Int} (h : OpR X (binaryOp op) (rI C fun i j => .int (f i j))) : OP' X T (binaryOp op) (oI2 C f) := by
  intro pins s σ H x y v u Q I rx ry ⟨d, e, M, q, hd, he, hM, z, k⟩
  cases hd with
  | int i => cases he with
    | int j => exact h pins s σ H _ _ v u Q I rx ry ⟨i, j, rfl, rfl, z.1, k _ _ _ _ .refl (.int _) hM z.2⟩
    | _ => exact z.elim
  | _ => cases he <;> exact z.elim
theorem opd_sub : OP' X T (binaryOp .Sub) oSub := op_i2 (opI fun _ _ _ _ _ _ _ _ q => sub_int q)
theorem opd_div : OP' X T (binaryOp .FloorDiv) oDiv := op_i2 op_fdivW
theorem opd_mod : OP' X T (binaryOp .Mod) oMod := op_i2 op_mod
theorem opd_pow : OP' X T (binaryOp .Pow) oPow := op_i2 (opI fun _ _ _ _ _ _ _ hc q => pow_int hc.1 hc.2 q)
theorem opd_band : OP' X T (binaryOp .BitAnd) oBAnd := op_i2 (opI fun _ _ _ _ _ _ _ _ q => and_int q)
theorem opd_shr : OP' X T (binaryOp .RShift) oShr := op_i2 op_shr
theorem opd_shl : OP' X T (binaryOp .LShift) oShl := op_i2 op_shl
theorem opd_neg : UnR X (unaryOp .USub) (r1D (wd X T) oNeg) := by
  intro pins s σ H x v Q I rx ⟨d, M, q, hd, hM, z, k⟩
  cases hd with
  | int i => exact un_neg pins s σ H _ v Q I rx ⟨i, rfl, k _ _ _ _ .refl (.int _) hM z⟩
  | _ => exact z.elim
theorem opd_add : OP' X T (binaryOp .Add) oAdd := by
  intro pins s σ H x y v u Q I rx ry ⟨d, e, M, q, hd, he, hM, z, k⟩
  cases hd with
  | int i => cases he with
    | int j => exact op_add pins s σ H _ _ v u Q I rx ry ⟨i, j, rfl, rfl, k _ _ _ _ .refl (.int _) hM z⟩
    | _ => exact z.elim
  | str a => cases he with
    | str b => exact op_add_str pins s σ H _ _ v u Q I rx ry ⟨a, b, rfl, rfl, z.1, k _ _ _ _ .refl (.str _) hM z.2⟩
    | _ => exact z.elim
  | tup sa la => cases he with
    | tup sb lb =>
      refine op_catA pins s σ H _ _ v u Q I rx ry ⟨_, _, _, _, rfl, rfl, sa, sb, by rw [← la.length, ← lb.length]; exact z.1, fun e1 => ?_, fun e1 e2 => ?_, fun e1 e2 p hp => ?_⟩
      · subst e1; cases la
        exact k _ _ _ _ .refl (.tup sb lb) hM z.2
      · subst e2; cases lb
        have z2 := z.2
        rw [List.append_nil] at z2
        exact k _ _ _ _ .refl (.tup sa la) hM z2
      · exact k _ _ _ _ (Ext.upd_new hp) (.tup (SqT.of upd_same) ((la.append lb).mono (Ext.upd_new hp))) (hM.newT hp) z.2
    | _ => exact z.elim
  | ref a => cases he with
    | ref b =>
      obtain ⟨xs, ys, ea, eb, hz, z⟩ := z
      obtain ⟨vs, e1, l1⟩ := hM.obj _ _ ea
      obtain ⟨ws, e2, l2⟩ := hM.obj _ _ eb
      refine op_cat pins s σ H _ _ v u Q I rx ry ⟨a, b, vs, ws, rfl, rfl, e1, e2, by rw [← l1.length, ← l2.length]; exact hz, fun p hp => ?_⟩
      exact k _ _ _ _ (Ext.upd_new hp) (.ref p) (hM.new (o := .lst (xs ++ ys)) hp ⟨_, upd_same, (l1.append l2).mono (Ext.upd_new hp)⟩) (z p (hM.free hp))
    | _ => exact z.elim
  | _ => cases he <;> exact z.elim
theorem DenL.rep {K : PySem.W.Frag} {H : Hp} {xs : List D} {vs : List V} (h : DenL K H xs vs) : ∀ k : Nat, DenL K H (List.replicate k xs).flatten (List.replicate k vs).flatten
  | 0 => .nil
  | k + 1 => by
    rw [List.replicate_succ, List.flatten_cons, List.replicate_succ, List.flatten_cons]
    exact h.append (DenL.rep h k)
theorem opd_mul : OP' X T (binaryOp .Mult) oMul := by
  intro pins s σ H x y v u Q I rx ry ⟨d, e, M, q, hd, he, hM, z, k⟩
  cases hd with
  | int i => cases he with
    | int j =>
      obtain ⟨t, rfl⟩ := rx
      obtain ⟨t', rfl⟩ := ry
      exact mul_int ⟨.int _, H, I.tok _, ⟨_, rfl⟩, k _ _ _ _ .refl (.int _) hM z.2⟩ z.1
    | _ => exact z.elim
  | ref a => cases he with
    | int j =>
      obtain ⟨xs, ea, h1, h2, hz, z⟩ := z
      obtain ⟨vs, e1, l1⟩ := hM.obj _ _ ea
      refine op_rep pins s σ H _ _ v u Q I rx ry ⟨a, j, vs, rfl, rfl, e1, h1, h2, by rw [← l1.length]; exact hz, fun p hp => ?_⟩
      exact k _ _ _ _ (Ext.upd_new hp) (.ref p) (hM.new (o := .lst _) hp ⟨_, upd_same, (l1.rep _).mono (Ext.upd_new hp)⟩) (z p (hM.free hp))
    | _ => exact z.elim
  | _ => cases he <;> exact z.elim
/-! comparisons -/
theorem dV_int {i j : Int} : decide (V.int i = V.int j) = decide (i = j) := by simp
theorem dV_str {i j : Str} : decide (V.str i = V.str j) = decide (i = j) := by simp
theorem dV_bl {i j : Bool} : decide (V.bl i = V.bl j) = decide (i = j) := by simp
theorem op_rel {op : CmpOp} {f : Int → Int → Bool} (h : OpR X (compareOp op) (rI0 fun i j => .bl (f i j))) : OP' X T (compareOp op) (oRel f false op) := by
  intro pins s σ H x y v u Q I rx ry ⟨d, e, M, q, hd, he, hM, z, k⟩
  cases hd with
  | int i => cases he with
    | int j => exact h pins s σ H _ _ v u Q I rx ry ⟨i, j, rfl, rfl, k _ _ _ _ .refl (.bl _) hM z⟩
    | _ => exact z.elim
  | _ => cases he <;> exact z.elim
theorem opd_eq (hu : X.A.units + 64 < cLine) : OP' X T (compareOp .Eq) (oEq false) := by
  intro pins s σ H x y v u Q I rx ry ⟨d, e, M, q, hd, he, hM, z, k⟩
  have gen : (∃ p r, PD M d p ∧ PD M e r ∧ SeqAt.shaped p = true ∧ SeqAt.shaped r = true ∧ q (.bl (PyData.eqv p r)) M) → wpAny (model X.prog X.w) X.A (compareOp .Eq v u) (EP X pins σ Q) X.xe s := fun ⟨p, r, h1, h2, s1, s2, z⟩ =>
    op_eqD hu pins s σ H x y v u Q I rx ry ⟨p, r, h1.dp hM hd, h2.dp hM he, s1, s2, k _ _ _ _ .refl (.bl _) hM z⟩
  cases hd with
  | int i => cases he with
    | int j => exact op_eq pins s σ H _ _ v u Q I rx ry ⟨rfl, k _ _ _ _ .refl (.bl _) hM (by rw [dV_int]; exact z)⟩
    | _ => exact gen z
  | str i => cases he with
    | str j => exact op_eq pins s σ H _ _ v u Q I rx ry ⟨rfl, k _ _ _ _ .refl (.bl _) hM (by rw [dV_str]; exact z)⟩
    | _ => exact gen z
  | bl i => cases he with
    | bl j => exact op_eq pins s σ H _ _ v u Q I rx ry ⟨rfl, k _ _ _ _ .refl (.bl _) hM (by rw [dV_bl]; exact z)⟩
    | _ => exact gen z
  | _ => exact gen z
theorem opd_ne (hu : X.A.units + 64 < cLine) : OP' X T (compareOp .NotEq) (oEq true) := by
  intro pins s σ H x y v u Q I rx ry ⟨d, e, M, q, hd, he, hM, z, k⟩
  have gen : (∃ p r, PD M d p ∧ PD M e r ∧ SeqAt.shaped p = true ∧ SeqAt.shaped r = true ∧ q (.bl (!PyData.eqv p r)) M) → wpAny (model X.prog X.w) X.A (compareOp .NotEq v u) (EP X pins σ Q) X.xe s := fun ⟨p, r, h1, h2, s1, s2, z⟩ =>
    op_neD hu pins s σ H x y v u Q I rx ry ⟨p, r, h1.dp hM hd, h2.dp hM he, s1, s2, k _ _ _ _ .refl (.bl _) hM z⟩
  cases hd with
  | int i => cases he with
    | int j => exact op_ne pins s σ H _ _ v u Q I rx ry ⟨rfl, k _ _ _ _ .refl (.bl _) hM (by rw [dV_int]; exact z)⟩
    | _ => exact gen z
  | str i => cases he with
    | str j => exact op_ne pins s σ H _ _ v u Q I rx ry ⟨rfl, k _ _ _ _ .refl (.bl _) hM (by rw [dV_str]; exact z)⟩
    | _ => exact gen z
  | bl i => cases he with
    | bl j => exact op_ne pins s σ H _ _ v u Q I rx ry ⟨rfl, k _ _ _ _ .refl (.bl _) hM (by rw [dV_bl]; exact z)⟩
    | _ => exact gen z
  | _ => exact gen z
theorem isB_ok {K : PySem.W.Frag} {H : Hp} {d : D} {x y : V} {e : D} {v u : Value} (hd : Den K H d x) (he : Den K H e y) (rx : RelV x v) (ry : RelV y u) (h : e = .non ∨ ∃ b, e = .bl b) : plainIs v u = true ∧ (v == u) = isB d e := by
  rcases h with rfl | ⟨b, rfl⟩
  · cases he; cases ry
    cases hd <;> first
      | (cases rx; exact ⟨rfl, rfl⟩)
      | (obtain ⟨t, rfl⟩ := rx; exact ⟨rfl, rfl⟩)
  · cases he; cases ry
    cases hd with
    | bl c => cases rx; exact ⟨rfl, by cases b <;> cases c <;> rfl⟩
    | _ => first
      | (cases rx; exact ⟨rfl, rfl⟩)
      | (obtain ⟨t, rfl⟩ := rx; exact ⟨rfl, rfl⟩)
theorem opd_is : OP' X T (compareOp .Is) (oIs false) := by
  intro pins s σ H x y v u Q I rx ry ⟨d, e, M, q, hd, he, hM, z, k⟩
  obtain ⟨h1, h2⟩ := isB_ok hd he rx ry z.1
  refine wpAny_is_plain h1 ?_
  rw [h2]
  exact ⟨.bl _, H, I, rfl, k _ _ _ _ .refl (.bl _) hM z.2⟩
theorem opd_isNot : OP' X T (compareOp .IsNot) (oIs true) := by
  intro pins s σ H x y v u Q I rx ry ⟨d, e, M, q, hd, he, hM, z, k⟩
  obtain ⟨h1, h2⟩ := isB_ok hd he rx ry z.1
  refine wpAny_isNot_plain h1 ?_
  rw [h2]
  exact ⟨.bl _, H, I, rfl, k _ _ _ _ .refl (.bl _) hM z.2⟩
end
end Lk
set_option Elab.async false
set_option linter.all false
set_option maxRecDepth 100000
set_option maxHeartbeats 1000000
/-! Lark, part 4: what a def promises over data; calls. -/
namespace Lk
open PySem PySem.Spec PyProof.Rows L2

/-- room, and nothing being shown -/
structure RoomG (k : Nat) (A : Around) : Prop where
  rm : Room k A
  gd : A.guards = some []
theorem RoomG.mono {j k : Nat} {A : Around} (r : RoomG k A) (h : j ≤ k) : RoomG j A := ⟨r.rm.mono h, r.gd⟩
theorem RoomG.deeper {k : Nat} {A : Around} (r : RoomG (k + 1) A) (env : Env) : RoomG k (A.deeper env) := ⟨r.rm.deeper env, r.gd⟩

/-- a promise over data: the arguments, the memory, what follows, what is raised -/
abbrev DSp := List D → Mm → Kd → EK → Prop
/-- the wish of an exception, over the heap -/
def exV (W : Wd) (H : Hp) (ex : EK) : XK := fun cls od H' => ∃ C d x v M', cls = .ref C ∧ od = some d ∧ H' d = some (.xd [(("value" : Str), v)]) ∧ Den W.K H' x v ∧ Mr W H' M' ∧ Ext W.K H H' ∧ ex C x M'
/-- a call's end -/
def CEL (W : Wd) (outer : List Env) (H : Hp) (s : Shared) (q : Kd) (u : Value) (s' : Shared) : Prop :=
  ∃ v H' d M', s'.os = s.os ∧ AllBare s'.gens ∧ Un (frs outer) [] H H' s.heap s'.heap ∧ HOk W.P W.w H' s'.heap ∧ RelV v u ∧ Ext W.K H H' ∧ Den W.K H' d v ∧ Mr W H' M' ∧ q d M'
def CRL (CX : CXT) (W : Wd) (outer : List Env) (H : Hp) (s : Shared) (q : Kd) (ex : EK) (r : Result) (s' : Shared) : Prop :=
  match r with
  | .ok (.ret u) => CEL W outer H s q u s'
  | .ok _ => False
  | .error e => CX outer H s (exV W H ex) e s'
/-- a def keeps its promise -/
structure FnL (W : Wd) (mg : Str → Option Value) (base : Heap) (CX : CXT) (k : Nat) (f : Addr) (fd : FuncData) (ps : List Str) (sp : DSp) : Prop where
  run : ∀ (A : Around) (outer : List Env) (s : Shared) (H : Hp) (args : Args) (us : List Value) (vs : List V) (ds : List D) (M : Mm) (q : Kd) (ex : EK), RoomG k A → Env0 W.P W.w W.K mg base A outer s H → BindsTo s fd args (ps.zip us) → Vals vs us →
    DenL W.K H ds vs → ds.length = ps.length → Mr W H M → sp ds M q ex → codeAny (model W.P W.w) A (.call (.ref f) args) (CRL CX W outer H s q ex) s
theorem FnL.mono {W : Wd} {mg : Str → Option Value} {base : Heap} {CX : CXT} {j k : Nat} {f : Addr} {fd : FuncData} {ps : List Str} {sp : DSp} (F : FnL W mg base CX j f fd ps sp) (h : j ≤ k) : FnL W mg base CX k f fd ps sp :=
  ⟨fun A outer s H args us vs ds M q ex hr => F.run A outer s H args us vs ds M q ex (hr.mono h)⟩
/-- an exception of a callee reaches what the body wants -/
def PassL (CX : CXT) (X : Cx) (T : List Addr) (ex : EK) : Prop := ∀ (pins : List (Addr × Obj)) (σ : List (Option V)) (H : Hp) (s : Shared) (e : Value) (s' : Shared), Inv X pins σ H s → CX X.stack H s (exV (wd X T) H ex) e s' → X.xe e s'

section
variable {X : Cx} {T : List Addr} {ex : EK} {CX : CXT} {k : Nat} {f : Addr} {fd : FuncData} {ps : List Str} {sp : DSp} {x : Str} {p pos : Pos} {e : Expr} {es : List Expr} {rs : DA}
theorem run_fnL {pins : List (Addr × Obj)} {σ : List (Option V)} {H : Hp} {s : Shared} {Q : VK} {us : List Value} {vs : List V} {ds : List D} {M : Mm} {q : Kd} {args : Args} (F : FnL (wd X T) X.mg X.base CX k f fd ps sp) (hr : RoomG k X.A) (hb : BindsTo s fd args (ps.zip us)) (hx : PassL CX X T ex)
    (I : Inv X pins σ H s) (r : Vals vs us) (hd : DenL X.K H ds vs) (hl : ds.length = ps.length) (hM : Mr (wd X T) H M) (h : sp ds M q ex) (hq : ∀ v H' d M', Ext X.K H H' → Den X.K H' d v → Mr (wd X T) H' M' → q d M' → Q v H') :
    wpAny (model X.prog X.w) X.A (call (.ref f) args.pos args.kw) (EP X pins σ Q) X.xe s := by
  refine wpAny_call (codeAny_mono (F.run X.A X.stack s H args us vs ds M q ex hr I.env0 hb r hd hl hM h) fun r s' hc => ?_)
  cases r with
  | error e => exact hx pins σ H s e s' I hc
  | ok fl =>
    cases fl with
    | ret u =>
      obtain ⟨v, H', d, M', os, bare, un, hok, rv, e1, d1, m1, z⟩ := hc
      exact I.after ⟨v, H', os, bare, un, hok, rv, hq v H' d M' e1 d1 m1 z⟩
    | next => exact False.elim hc
    | brk => exact False.elim hc
    | cont => exact False.elim hc
/-- f(e, ..) -/
def rCall (sp : DSp) (n : Nat) (a : DA) : DE := fun ex δ M q => a ex δ M fun ds M1 => ds.length = n ∧ sp ds M1 q ex
theorem de_call (F : FnL (wd X T) X.mg X.base CX k f fd ps sp) (hr : RoomG k X.A) (hg : Gl X x) (hm : X.mg x = some (.ref f)) (hk : PySem.W.keepIn X.K (.ref f) = true)
    (hb : ∀ us : List Value, us.length = ps.length → bindArgs fd ⟨us, []⟩ = pure (ps.zip us)) (hx : PassL CX X T ex) (ha : AP' X T ex (e :: es) rs) (hdb : (x == ("__debug__" : Str)) = false)
    (he : starEach (e :: es) X.env = (false, eval e X.env) :: starEach es X.env) (hpl : (backTo pos (starEach es X.env)).any (·.1) = false) : EP' X T ex (.Call (.Name x p) (e :: es) [] pos) (rCall sp ps.length rs) := by
  refine ⟨fun pins s σ H Q I ⟨δ, M, q, hδ, hM, z, kk⟩ => ?_⟩
  refine wpAny_Call_Name_kw (ld_glob I hg hm ?_ hdb)
  refine PySem.W.callWith_K (h₀ := X.base) I.ok.mod.kin hk (thn (ha.run pos pins s σ H (fun vs H1 => ∃ ds M1, Ext X.K H H1 ∧ DenL X.K H1 ds vs ∧ Mr (wd X T) H1 M1 ∧ ds.length = ps.length ∧ sp ds M1 q ex) I ⟨δ, M, _, hδ, hM, z, fun vs H1 ds M1 e1 d1 m1 z1 => ⟨ds, M1, e1, d1, m1, z1⟩⟩)
    fun us s1 ⟨vs, H1, I1, r, ds, M1, e1, d1, m1, hl, z1⟩ => ⟨I1.kIn, ?_⟩) he hpl
  have hl2 : us.length = ps.length := by rw [← r.length, ← d1.length]; exact hl
  exact run_fnL (args := ⟨us, []⟩) F hr (.of_eq (hb us hl2)) hx I1 r d1 hl m1 z1 fun v H' d M' e2 => kk v H' d M' (e1.trans e2)
theorem de_call0 (F : FnL (wd X T) X.mg X.base CX k f fd [] sp) (hr : RoomG k X.A) (hg : Gl X x) (hm : X.mg x = some (.ref f)) (hk : PySem.W.keepIn X.K (.ref f) = true)
    (hb : bindArgs fd ⟨[], []⟩ = pure []) (hx : PassL CX X T ex) (hdb : (x == ("__debug__" : Str)) = false) : EP' X T ex (.Call (.Name x p) [] [] pos) (rCall sp 0 rNil) := by
  refine ⟨fun pins s σ H Q I ⟨δ, M, q, hδ, hM, z, kk⟩ => ?_⟩
  refine wpAny_Call_Name_kw (ld_glob I hg hm ?_ hdb)
  refine PySem.W.callWith_K0 I.kIn hk ?_
  exact run_fnL (us := []) (args := ⟨[], []⟩) F hr (.of_eq hb) hx I .nil .nil rfl hM z.2 fun v H' d M' e2 => kk v H' d M' e2
/-- keywords, evaluated from the left -/
abbrev KP' (X : Cx) (T : List Addr) (ex : EK) (kws : List Keyword) (r : DA) : Prop := PK X kws (tDA (wd X T) ex r)
theorem dk_nil : KP' X T ex [] rNil := ⟨fun pos pins s σ H Q I ⟨δ, M, q, hδ, hM, z, k⟩ => pk_nil.run pos pins s σ H Q I (k _ _ _ _ .refl .nil hM z)⟩
theorem dk_cons {nm : Option Str} {kpos : Pos} {ra : DE} {kws : List Keyword} (ha : EP' X T ex e ra) (hr : KP' X T ex kws rs) : KP' X T ex (⟨nm, e, kpos⟩ :: kws) (rCons ra rs) :=
  ⟨fun pos pins s σ H Q I ⟨δ, M, q, hδ, hM, z, k⟩ => (pk_cons ha hr).run pos pins s σ H Q I ⟨δ, M, _, hδ, hM, z, fun v H1 d M1 e1 d1 m1 z1 => ⟨δ, M1, _, hδ.mono e1, m1, z1, fun vs H2 ds M2 e2 d2 m2 z2 =>
    k _ _ _ _ (e1.trans e2) (.cons (d1.mono e2) d2) m2 z2⟩⟩⟩
/-- the keywords' values in the parameters' order: place i is filled by keyword pm[i] -/
def permD {α : Type} (pm : List Nat) (xs : List α) (d : α) : List α := pm.map fun i => xs.getD i d
theorem permD_length {α : Type} {pm : List Nat} {xs : List α} {d : α} : (permD pm xs d).length = pm.length := by simp [permD]
theorem DenL.perm {K : PySem.W.Frag} {H : Hp} {ds : List D} {vs : List V} (h : DenL K H ds vs) : ∀ (pm : List Nat), DenL K H (permD pm ds .non) (permD pm vs .non)
  | [] => .nil
  | i :: pm => by
    refine .cons ?_ (DenL.perm h pm)
    show Den K H (ds.getD i .non) (vs.getD i .non)
    cases e : ds[i]? with
    | none =>
      have e2 : vs[i]? = none := by rw [List.getElem?_eq_none_iff] at e ⊢; rw [← h.length]; exact e
      rw [List.getD_eq_getElem?_getD, List.getD_eq_getElem?_getD, e, e2]; exact .non
    | some d =>
      obtain ⟨v, e2, hd⟩ := h.get e
      rw [List.getD_eq_getElem?_getD, List.getD_eq_getElem?_getD, e, e2]; exact hd
theorem Vals.perm {vs : List V} {us : List Value} (h : Vals vs us) : ∀ (pm : List Nat), Vals (permD pm vs .non) (permD pm us .none)
  | [] => .nil
  | i :: pm => by
    refine .cons ?_ (Vals.perm h pm)
    show RelV (vs.getD i .non) (us.getD i .none)
    cases e : vs[i]? with
    | none =>
      have e2 := h.none_of e
      rw [List.getD_eq_getElem?_getD, List.getD_eq_getElem?_getD, e, e2]; rfl
    | some d =>
      obtain ⟨v, e2, hd⟩ := h.get e
      rw [List.getD_eq_getElem?_getD, List.getD_eq_getElem?_getD, e, e2]; exact hd
def rCallK (sp : DSp) (n : Nat) (pm : List Nat) (a : DA) : DE := fun ex δ M q => a ex δ M fun ds M1 => ds.length = n ∧ sp (permD pm ds .non) M1 q ex
/-- f(k = e, ..), keywords alone -/
theorem de_callK {kws : List Keyword} {ks : List Str} {pm : List Nat} (F : FnL (wd X T) X.mg X.base CX k f fd ps sp) (hr : RoomG k X.A) (hg : Gl X x) (hm : X.mg x = some (.ref f)) (hk : PySem.W.keepIn X.K (.ref f) = true)
    (hb : ∀ ws : List Value, ws.length = ks.length → bindArgs fd ⟨[], ks.zip ws⟩ = pure (ps.zip (permD pm ws .none))) (hpm : pm.length = ps.length) (hx : PassL CX X T ex) (ha : KP' X T ex kws rs) (hdb : (x == ("__debug__" : Str)) = false)
    (hall : (backToKw pos (keywordEach kws X.env)).all (·.1.isSome) = true) (hks : (backToKw pos (keywordEach kws X.env)).filterMap (·.1) = ks)
    (hpl : ((backTo pos (starEach [] X.env)).any (·.1) || (backToKw pos (keywordEach kws X.env)).any (·.1.isNone)) = false) : EP' X T ex (.Call (.Name x p) [] kws pos) (rCallK sp ks.length pm rs) := by
  refine ⟨fun pins s σ H Q I ⟨δ, M, q, hδ, hM, z, kk⟩ => ?_⟩
  refine wpAny_Call_Name_kw (ld_glob I hg hm ?_ hdb)
  refine PySem.W.callWith_KW0 (h₀ := X.base) I.ok.mod.kin hk hall (thn (ha.run pos pins s σ H (fun vs H1 => ∃ ds M1, Ext X.K H H1 ∧ DenL X.K H1 ds vs ∧ Mr (wd X T) H1 M1 ∧ ds.length = ks.length ∧ sp (permD pm ds .non) M1 q ex) I ⟨δ, M, _, hδ, hM, z, fun vs H1 ds M1 e1 d1 m1 z1 => ⟨ds, M1, e1, d1, m1, z1⟩⟩)
    fun us s1 ⟨vs, H1, I1, r, ds, M1, e1, d1, m1, hl, z1⟩ => ⟨I1.kIn, ?_⟩) hpl
  rw [hks]
  have hl2 : us.length = ks.length := by rw [← r.length, ← d1.length]; exact hl
  exact run_fnL (args := ⟨[], ks.zip us⟩) F hr (.of_eq (hb us hl2)) hx I1 (Vals.perm r pm) (d1.perm pm) (by rw [permD_length]; exact hpm) m1 z1 fun v H' d M' e2 => kk v H' d M' (e1.trans e2)
end
end Lk
set_option Elab.async false
set_option linter.all false
set_option maxRecDepth 100000
set_option maxHeartbeats 1000000
/-! Lark, part 5: statements over data. -/
namespace Lk
open PySem PySem.Spec PyProof.Rows L2

/-- what is wanted behind a statement -/
structure DEnds where
  nx : DSt → Mm → Prop
  rt : Kd
  bk : DSt → Mm → Prop := fun _ _ => False
  ct : DSt → Mm → Prop := fun _ _ => False
abbrev DS := EK → DEnds → DSt → Mm → Prop
structure Fits (W : Wd) (D : Ends) (K : DEnds) (H : Hp) : Prop where
  nx : ∀ σ' H' δ' M', Ext W.K H H' → DenS W.K H' δ' σ' → Mr W H' M' → K.nx δ' M' → D.nx σ' H'
  rt : ∀ v H' d M', Ext W.K H H' → Den W.K H' d v → Mr W H' M' → K.rt d M' → D.rt v H'
  bk : ∀ σ' H' δ' M', Ext W.K H H' → DenS W.K H' δ' σ' → Mr W H' M' → K.bk δ' M' → D.bk σ' H'
  ct : ∀ σ' H' δ' M', Ext W.K H H' → DenS W.K H' δ' σ' → Mr W H' M' → K.ct δ' M' → D.ct σ' H'
theorem Fits.mono {W : Wd} {D : Ends} {K : DEnds} {H H' : Hp} (f : Fits W D K H) (e : Ext W.K H H') : Fits W D K H' :=
  ⟨fun a b c d x => f.nx a b c d (e.trans x), fun a b c d x => f.rt a b c d (e.trans x), fun a b c d x => f.bk a b c d (e.trans x), fun a b c d x => f.ct a b c d (e.trans x)⟩
def tS (W : Wd) (ex : EK) (r : DS) : TS := fun D σ H => ∃ δ M K, DenS W.K H δ σ ∧ Mr W H M ∧ r ex K δ M ∧ Fits W D K H
theorem PSw {X : Cx} {e : Stmt} {t t' : TS} (h : PS X e t) (k : ∀ D σ H, t' D σ H → t D σ H) : PS X e t' := ⟨fun pins s σ H D I z => h.run pins s σ H D I (k D σ H z)⟩
theorem PSsw {X : Cx} {e : List Stmt} {t t' : TS} (h : PSs X e t) (k : ∀ D σ H, t' D σ H → t D σ H) : PSs X e t' := ⟨fun pins s σ H D I z => h.run pins s σ H D I (k D σ H z)⟩

def rNext : DS := fun _ K δ M => K.nx δ M
def rSeq (r s : DS) : DS := fun ex K δ M => r ex { K with nx := s ex K } δ M
def rBrk : DS := fun _ K δ M => K.bk δ M
def rCnt : DS := fun _ K δ M => K.ct δ M
def rRet (a : DE) : DS := fun ex K δ M => a ex δ M K.rt
def rRetN : DS := fun _ K _ M => K.rt .non M
def rIfS (t : DT) (a b : DS) : DS := fun ex K δ M => t ex δ M fun c M1 => if c = true then a ex K δ M1 else b ex K δ M1
def rDrop (a : DE) : DS := fun ex K δ M => a ex δ M fun _ M1 => K.nx δ M1
def rNever : DS := fun _ _ _ _ => False
/-- targets -/
abbrev DG := D → EK → DSt → Mm → (DSt → Mm → Prop) → Prop
abbrev DGs := List D → EK → DSt → Mm → (DSt → Mm → Prop) → Prop
def rgName (i : Nat) : DG := fun d _ δ M q => q (δ.set i (some d)) M
def rgNil : DGs := fun ds _ δ M q => ds = [] ∧ q δ M
def rgCons (a : DG) (b : DGs) : DGs := fun ds ex δ M q => ∃ d r, ds = d :: r ∧ a d ex δ M fun δ1 M1 => b r ex δ1 M1 q
def rgTup (n : Nat) (a : DGs) : DG := fun d ex δ M q => ∃ xs, d = .tup xs ∧ xs.length = n ∧ a xs ex δ M q
/-- o[i] = v, by values -/
abbrev D3 := D → D → D → Mm → (Mm → Prop) → Prop
def rgSub (o i : DE) (f : D3) : DG := fun d ex δ M q => o ex δ M fun x M1 => i ex δ M1 fun y M2 => f x y d M2 fun M3 => q δ M3
def rAsg (a : DE) (g : DG) : DS := fun ex K δ M => a ex δ M fun d M1 => g d ex δ M1 K.nx
def setAll : DSt → List Nat → List D → DSt
  | δ, i :: is, x :: xs => (setAll δ is xs).set i (some x)
  | δ, _, _ => δ
def rPar (is : List Nat) (a : DE) : DS := fun ex K δ M => a ex δ M fun d M1 => ∃ xs, d = .tup xs ∧ xs.length = is.length ∧ K.nx (setAll δ is xs) M1
def rAug (i : Nat) (o : D2) (a : DE) : DS := fun ex K δ M => ∃ x, δ[i]? = some (some x) ∧ a ex δ M fun y M1 => o x y M1 fun z M2 => K.nx (δ.set i (some z)) M2
/-- the one slots say no more than the other ones -/
def SubS (δ ε : DSt) : Prop := δ.length = ε.length ∧ ∀ (i : Nat) d, δ[i]? = some (some d) → ε[i]? = some (some d)
theorem SubS.refl (δ : DSt) : SubS δ δ := ⟨rfl, fun _ _ h => h⟩
/-- forgetting -/
def Wk (P : DSt → Mm → Prop) : DSt → Mm → Prop := fun δ M => ∃ δ' M', SubS δ' δ ∧ Sub M' M ∧ P δ' M'
theorem Wk.of {P : DSt → Mm → Prop} {δ : DSt} {M : Mm} (h : P δ M) : Wk P δ M := ⟨δ, M, .refl δ, .refl M, h⟩
/-- while: the invariant with its measure -/
def rWhile (t : DT) (b : DS) : DS := fun ex K δ M => ∃ I : Nat → DSt → Mm → Prop, (∃ m, I m δ M) ∧ ∀ m δ M, I m δ M → t ex δ M fun c M1 => if c = true then
  b ex { K with nx := Wk fun δ' M' => ∃ m', m' < m ∧ I m' δ' M', ct := Wk fun δ' M' => ∃ m', m' < m ∧ I m' δ' M', bk := K.nx } δ M1 else K.nx δ M1
/-- what is walked: its items, and what must stand meanwhile -/
structure ItD where
  items : List D
  keep : Mm → Prop
abbrev DI := EK → DSt → Mm → (ItD → Mm → Prop) → Prop
def rFor (w : DI) (g : DG) (b : DS) : DS := fun ex K δ M => w ex δ M fun J M1 => ∃ I : Nat → DSt → Mm → Prop, I 0 δ M1 ∧ (∀ i δ M, I i δ M → J.keep M) ∧
  (∀ i d δ M, J.items[i]? = some d → I i δ M → g d ex δ M fun δ2 M2 => b ex { K with nx := Wk (I (i + 1)), ct := Wk (I (i + 1)), bk := K.nx } δ2 M2) ∧
  ∀ δ M, I J.items.length δ M → K.nx δ M

section
variable {W : Wd} {H : Hp}
theorem DenS.sub {K : PySem.W.Frag} {δ ε : DSt} {σ : List (Option V)} (h : DenS K H ε σ) (s : SubS δ ε) : DenS K H δ σ := ⟨s.1.trans h.1, fun i d e => h.2 i d (s.2 i d e)⟩
end
section
variable {X : Cx} {T : List Addr} {ex : EK} {st : Stmt} {rest : List Stmt} {r r' : DS} {e : Expr} {ra : DE} {tb : DT} {pos : Pos}
abbrev SP' (X : Cx) (T : List Addr) (ex : EK) (st : Stmt) (r : DS) : Prop := PS X st (tS (wd X T) ex r)
abbrev SsP' (X : Cx) (T : List Addr) (ex : EK) (st : List Stmt) (r : DS) : Prop := PSs X st (tS (wd X T) ex r)
/-- the slots but those at js are as they were -/
def But (js : List Nat) (σ σ' : List (Option V)) : Prop := σ'.length = σ.length ∧ ∀ j, j ∉ js → σ'[j]? = σ[j]?
theorem But.refl (js : List Nat) (σ : List (Option V)) : But js σ σ := ⟨rfl, fun _ _ => rfl⟩
theorem But.trans {js ks : List Nat} {σ σ1 σ2 : List (Option V)} (a : But js σ σ1) (b : But ks σ1 σ2) : But (js ++ ks) σ σ2 :=
  ⟨b.1.trans a.1, fun j hj => (b.2 j fun h => hj (List.mem_append_right _ h)).trans (a.2 j fun h => hj (List.mem_append_left _ h))⟩
theorem But.set (i : Nat) (v : Option V) (σ : List (Option V)) : But [i] σ (σ.set i v) := ⟨by simp, fun j hj => by rw [List.getElem?_set_ne]; intro e; exact hj (by simp [e])⟩
/-- target e takes what it is given as g says, changing the slots js alone -/
abbrev GP' (X : Cx) (T : List Addr) (ex : EK) (e : Expr) (g : DG) (js : List Nat) : Prop := PG X e fun v σ H Q => ∃ d δ M q, Den X.K H d v ∧ DenS X.K H δ σ ∧ Mr (wd X T) H M ∧ g d ex δ M q ∧ ∀ σ' H' δ' M', But js σ σ' → Ext X.K H H' → DenS X.K H' δ' σ' → Mr (wd X T) H' M' → q δ' M' → Q σ' H'
abbrev GsP' (X : Cx) (T : List Addr) (ex : EK) (es : List Expr) (g : DGs) (js : List Nat) : Prop := PGs X es fun vs σ H Q => ∃ ds δ M q, DenL X.K H ds vs ∧ DenS X.K H δ σ ∧ Mr (wd X T) H M ∧ g ds ex δ M q ∧ ∀ σ' H' δ' M', But js σ σ' → Ext X.K H H' → DenS X.K H' δ' σ' → Mr (wd X T) H' M' → q δ' M' → Q σ' H'

theorem ds_nil : SsP' X T ex [] rNext := PSsw pss_nil fun D σ H ⟨δ, M, K, hδ, hM, z, f⟩ => f.nx _ _ _ _ .refl hδ hM z
theorem ds_cons (h1 : SP' X T ex st r) (h2 : SsP' X T ex rest r') : SsP' X T ex (st :: rest) (rSeq r r') :=
  PSsw (pss_cons h1 h2) fun D σ H ⟨δ, M, K, hδ, hM, z, f⟩ => ⟨δ, M, _, hδ, hM, z, ⟨fun σ' H' δ' M' e1 d1 m1 z1 => ⟨δ', M', K, d1, m1, z1, f.mono e1⟩, f.rt, f.bk, f.ct⟩⟩
theorem ds_pass : SP' X T ex (.Pass pos) rNext := PSw ps_pass fun D σ H ⟨δ, M, K, hδ, hM, z, f⟩ => f.nx _ _ _ _ .refl hδ hM z
theorem ds_brk : SP' X T ex (.Break pos) rBrk := PSw ps_break fun D σ H ⟨δ, M, K, hδ, hM, z, f⟩ => f.bk _ _ _ _ .refl hδ hM z
theorem ds_cnt : SP' X T ex (.Continue pos) rCnt := PSw ps_continue fun D σ H ⟨δ, M, K, hδ, hM, z, f⟩ => f.ct _ _ _ _ .refl hδ hM z
theorem ds_never : SP' X T ex st rNever := ⟨fun _ _ _ _ _ _ ⟨_, _, _, _, _, z, _⟩ => z.elim⟩
theorem ds_ret (h : EP' X T ex e ra) : SP' X T ex (.Return (some e) pos) (rRet ra) := PSw (ps_ret h) fun D σ H ⟨δ, M, K, hδ, hM, z, f⟩ => ⟨δ, M, _, hδ, hM, z, f.rt⟩
theorem ds_retN : SP' X T ex (.Return none pos) rRetN := PSw ps_retN fun D σ H ⟨δ, M, K, hδ, hM, z, f⟩ => f.rt _ _ _ _ .refl .non hM z
theorem ds_drop (h : EP' X T ex e ra) (hs : swapsWith e none pos.line X.env = pure false) : SP' X T ex (.Expr e pos) (rDrop ra) :=
  PSw (ps_expr h hs) fun D σ H ⟨δ, M, K, hδ, hM, z, f⟩ => ⟨δ, M, _, hδ, hM, z, fun v H' d M' e1 d1 m1 z1 => f.nx _ _ _ _ e1 (hδ.mono e1) m1 z1⟩
theorem ds_if {a b : List Stmt} (ht : TP' X T ex e tb) (ha : SsP' X T ex a r) (hb : SsP' X T ex b r') : SP' X T ex (.If e a b pos) (rIfS tb r r') :=
  PSw (ps_if ht ha hb) fun D σ H ⟨δ, M, K, hδ, hM, z, f⟩ => ⟨δ, M, _, hδ, hM, z, fun c H1 M1 e1 m1 z1 => by
    cases c with
    | true => rw [if_pos rfl] at z1 ⊢; exact ⟨δ, M1, K, hδ.mono e1, m1, z1, f.mono e1⟩
    | false => rw [if_neg Bool.false_ne_true] at z1 ⊢; exact ⟨δ, M1, K, hδ.mono e1, m1, z1, f.mono e1⟩⟩
/-! targets -/
theorem PGw {e : Expr} {t t' : TG} (h : PG X e t) (k : ∀ v σ H Q, t' v σ H Q → t v σ H Q) : PG X e t' := ⟨fun pins s σ H v u Q I rv z => h.run pins s σ H v u Q I rv (k v σ H Q z)⟩
theorem PGsw {e : List Expr} {t t' : TGs} (h : PGs X e t) (k : ∀ v σ H Q, t' v σ H Q → t v σ H Q) : PGs X e t' := ⟨fun pins s σ H v u Q I rv z => h.run pins s σ H v u Q I rv (k v σ H Q z)⟩
theorem dg_name {i : Nat} {x : Str} (hN : X.N.Nodup) (hi : X.N[i]? = some x) (hx : Loc X.env.scope x) (hf : X.fn x = true ∨ X.env.scope.names.lookup x = some .local) : GP' X T ex (.Name x pos) (rgName i) [i] :=
  PGw (pg_name (i := i) hN hi hx hf) fun v σ H Q ⟨d, δ, M, q, hd, hδ, hM, z, k⟩ => k _ _ _ _ (But.set i _ σ) .refl (hδ.set hd) hM z
theorem dgs_nil : GsP' X T ex [] rgNil [] := PGsw pgs_nil fun vs σ H Q ⟨ds, δ, M, q, hd, hδ, hM, z, k⟩ => by
  obtain ⟨rfl, z⟩ := z
  cases hd
  exact ⟨rfl, k _ _ _ _ (.refl _ _) .refl hδ hM z⟩
theorem dgs_cons {es : List Expr} {g : DG} {gs : DGs} {js ks : List Nat} (h1 : GP' X T ex e g js) (h2 : GsP' X T ex es gs ks) (hs : (assignEach (e :: es) X.env).map (·.2) = assign e X.env :: (assignEach es X.env).map (·.2)) : GsP' X T ex (e :: es) (rgCons g gs) (js ++ ks) :=
  PGsw (pgs_cons h1 h2 hs) fun vs σ H Q ⟨ds, δ, M, q, hd, hδ, hM, z, k⟩ => by
    obtain ⟨d, r, rfl, z⟩ := z
    cases hd with
    | cons a t => exact ⟨_, _, rfl, d, δ, M, _, a, hδ, hM, z, fun σ1 H1 δ1 M1 b1 e1 d1 m1 z1 => ⟨r, δ1, M1, q, t.mono e1, d1, m1, z1, fun σ2 H2 δ2 M2 b2 e2 => k σ2 H2 δ2 M2 (b1.trans b2) (e1.trans e2)⟩⟩
theorem dg_tup {es : List Expr} {k1 n : Nat} {gs : DGs} {js : List Nat} (hc : X.calm = true) (h : GsP' X T ex es gs js) (hn : (assignEach es X.env).length = n) (hst : (assignEach es X.env).findIdx? (·.1) = none) : GP' X T ex (.Tuple es k1 pos) (rgTup n gs) js :=
  PGw (pg_tup hc h hn hst) fun v σ H Q ⟨d, δ, M, q, hd, hδ, hM, z, k⟩ => by
    obtain ⟨xs, rfl, hl, z⟩ := z
    cases hd with
    | tup s l => exact ⟨_, _, rfl, s, by rw [← l.length]; exact hl, xs, δ, M, q, l, hδ, hM, z, k⟩
abbrev StP' (X : Cx) (T : List Addr) (f : D3) : Prop := PSet X fun o i v H Q => ∃ x y d M q, Den X.K H x o ∧ Den X.K H y i ∧ Den X.K H d v ∧ Mr (wd X T) H M ∧ f x y d M q ∧ ∀ H' M', Ext X.K H H' → Mr (wd X T) H' M' → q M' → Q H'
theorem dg_sub {o i : Expr} {ro ri : DE} {f : D3} (ho : EP' X T ex o ro) (hi : EP' X T ex i ri) (hs : StP' X T f)
    (ha : ∀ v, assign (.Subscript o i pos) X.env v = (do
      let ov ← holding [v] (eval o X.env)
      let iv ← holding [v, ov] (eval i X.env)
      standAt pos
      holding [v, ov, iv] (setItem ov iv v)
      release [v, ov, iv] [])) : GP' X T ex (.Subscript o i pos) (rgSub ro ri f) [] :=
  PGw (pg_sub ho hi hs ha) fun v σ H Q ⟨d, δ, M, q, hd, hδ, hM, z, k⟩ => ⟨δ, M, _, hδ, hM, z, fun v1 H1 x M1 e1 d1 m1 z1 => ⟨δ, M1, _, hδ.mono e1, m1, z1, fun v2 H2 y M2 e2 d2 m2 z2 =>
    ⟨x, y, d, M2, _, d1.mono e2, d2, hd.mono (e1.trans e2), m2, z2, fun H3 M3 e3 m3 z3 => k _ _ _ _ (.refl _ _) ((e1.trans e2).trans e3) (hδ.mono ((e1.trans e2).trans e3)) m3 z3⟩⟩⟩
theorem ds_asg {tg : Expr} {g : DG} {js : List Nat} (he : EP' X T ex e ra) (hg : GP' X T ex tg g js) (hs : swapsWithSole [tg] e pos.line X.env = pure false) (hw : swappedStores [tg] e X.env = pure none)
    (h1 : (assignEach [tg] X.env).map (·.2) = [assign tg X.env]) : SP' X T ex (.Assign [tg] e pos) (rAsg ra g) :=
  PSw (ps_asg he hg hs hw h1) fun D σ H ⟨δ, M, K, hδ, hM, z, f⟩ => ⟨δ, M, _, hδ, hM, z, fun v H1 d M1 e1 d1 m1 z1 => ⟨d, δ, M1, _, d1, hδ.mono e1, m1, z1, fun σ' H' δ' M' _ e2 => f.nx σ' H' δ' M' (e1.trans e2)⟩⟩
theorem ds_set {i : Nat} {x : Str} {pos' : Pos} (hN : X.N.Nodup) (hi : X.N[i]? = some x) (hx : Loc X.env.scope x) (he : EP' X T ex e ra) (hs : swapsWith e (some (.Name x pos')) pos.line X.env = pure false)
    (hf : X.fn x = true ∨ X.env.scope.names.lookup x = some .local) : SP' X T ex (.Assign [.Name x pos'] e pos) (rAsg ra (rgName i)) :=
  PSw (ps_set (i := i) hN hi hx he hs hf) fun D σ H ⟨δ, M, K, hδ, hM, z, f⟩ => ⟨δ, M, _, hδ, hM, z, fun v H1 d M1 e1 d1 m1 z1 => f.nx _ _ _ _ e1 ((hδ.mono e1).set d1) m1 z1⟩
/-- a, b = ..; a, b, c = .. with plain local names: stored from the right -/
theorem ds_par2 {i j : Nat} {x y : Str} {px py pt : Pos} {kt : Nat} (hc : X.calm = true) (hN : X.N.Nodup) (hi : X.N[i]? = some x) (hj : X.N[j]? = some y)
    (hx : X.env.scope.names.lookup x = some .local) (hy : X.env.scope.names.lookup y = some .local) (he : EP' X T ex e ra)
    (hw : swappedStores [.Tuple [.Name x px, .Name y py] kt pt] e X.env = pure (some [x, y])) (hs : swapsWithSole [.Tuple [.Name x px, .Name y py] kt pt] e pos.line X.env = pure false) :
    SP' X T ex (.Assign [.Tuple [.Name x px, .Name y py] kt pt] e pos) (rPar [i, j] ra) := by
  refine ⟨fun pins s σ H D I ⟨δ, M, K, hδ, hM, z, f⟩ => ?_⟩
  rw [exec_Assign_arm]
  refine wpAny_bind (wpAny_standAt ?_)
  rw [hs]
  refine wpAny_bind (wpAny_pure ?_)
  rw [if_neg (by decide)]
  refine wpAny_bind (thn (he.run pins s σ H (fun v H1 => ∃ xs M1, Ext X.K H H1 ∧ Den X.K H1 (.tup xs) v ∧ Mr (wd X T) H1 M1 ∧ xs.length = 2 ∧ K.nx (setAll δ [i, j] xs) M1) I ⟨δ, M, _, hδ, hM, z, fun v H1 d M1 e1 d1 m1 ⟨xs, ed, hl, z1⟩ => ⟨xs, M1, e1, ed ▸ d1, m1, hl, z1⟩⟩) fun u s1 ⟨v, H1, I1, rv, xs, M1, e1, d1, m1, hl, z1⟩ => ?_)
  rw [hw]
  refine wpAny_bind (wpAny_pure ?_)
  match xs, hl with
  | [d, d'], _ =>
    cases d1 with
    | @tup a _ vs sq l =>
      cases l with
      | cons ha l =>
        cases l with
        | cons hb l =>
          cases l
          cases rv
          obtain ⟨its, vr, ht, _⟩ := I1.tuple sq
          obtain ⟨u1, u2, rfl, p, q⟩ := Vals.two vr
          show wpAny (model X.prog X.w) X.A (do rule "assign.swapped-stores"; let items ← unpackItems (.ref a) 2 none; assignInOrder [fun v => bindName X.env y v, fun v => bindName X.env x v] items.reverse; pure Flow.next) _ _ _
          refine wpAny_bind (wpAny_rule (wpAny_bind (unpackItems_tuple (items := #[u1, u2]) (I.ok.hd hc) ht fun h' hx' => ?_)))
          have I3 := I1.kept (h' := h') (t' := s1.toks) fun b o e => hx' b o (Nat.ne_of_lt (Heap.lt_size e)) e
          show wpAny _ _ (assignInOrder [fun v => bindName X.env y v, fun v => bindName X.env x v] [u2, u1] >>= fun _ => pure Flow.next) _ _ _
          refine wpAny_bind (assignInOrder_cons (wpAny_bindName (store_ok I3 hN hj (.inl hy) q (fun s2 I4 => ?_) (.inr hy))))
          refine assignInOrder_cons (wpAny_bindName (store_ok I4 hN hi (.inl hx) p (fun s3 I5 => assignInOrder_nil (wpAny_pure ?_)) (.inr hx)))
          exact ⟨_, H1, I5, f.nx _ _ _ _ e1 (((hδ.mono e1).set hb).set ha) m1 z1⟩
theorem ds_par3 {i j k : Nat} {x y w : Str} {px py pw pt : Pos} {kt : Nat} (hc : X.calm = true) (hN : X.N.Nodup) (hi : X.N[i]? = some x) (hj : X.N[j]? = some y) (hk : X.N[k]? = some w)
    (hx : X.env.scope.names.lookup x = some .local) (hy : X.env.scope.names.lookup y = some .local) (hz : X.env.scope.names.lookup w = some .local) (he : EP' X T ex e ra)
    (hw : swappedStores [.Tuple [.Name x px, .Name y py, .Name w pw] kt pt] e X.env = pure (some [x, y, w])) (hs : swapsWithSole [.Tuple [.Name x px, .Name y py, .Name w pw] kt pt] e pos.line X.env = pure false) :
    SP' X T ex (.Assign [.Tuple [.Name x px, .Name y py, .Name w pw] kt pt] e pos) (rPar [i, j, k] ra) := by
  refine ⟨fun pins s σ H D I ⟨δ, M, K, hδ, hM, z, f⟩ => ?_⟩
  rw [exec_Assign_arm]
  refine wpAny_bind (wpAny_standAt ?_)
  rw [hs]
  refine wpAny_bind (wpAny_pure ?_)
  rw [if_neg (by decide)]
  refine wpAny_bind (thn (he.run pins s σ H (fun v H1 => ∃ xs M1, Ext X.K H H1 ∧ Den X.K H1 (.tup xs) v ∧ Mr (wd X T) H1 M1 ∧ xs.length = 3 ∧ K.nx (setAll δ [i, j, k] xs) M1) I ⟨δ, M, _, hδ, hM, z, fun v H1 d M1 e1 d1 m1 ⟨xs, ed, hl, z1⟩ => ⟨xs, M1, e1, ed ▸ d1, m1, hl, z1⟩⟩) fun u s1 ⟨v, H1, I1, rv, xs, M1, e1, d1, m1, hl, z1⟩ => ?_)
  rw [hw]
  refine wpAny_bind (wpAny_pure ?_)
  match xs, hl with
  | [d, d', d''], _ =>
    cases d1 with
    | @tup a _ vs sq l =>
      cases l with
      | cons ha l =>
        cases l with
        | cons hb l =>
          cases l with
          | cons hc3 l =>
            cases l
            cases rv
            obtain ⟨its, vr, ht, _⟩ := I1.tuple sq
            obtain ⟨u1, r2, rfl, p, vr2⟩ : ∃ u1 r2, its = u1 :: r2 ∧ RelV _ u1 ∧ Vals [_, _] r2 := by
              cases vr with
              | cons p vr2 => exact ⟨_, _, rfl, p, vr2⟩
            obtain ⟨u2, u3, rfl, q, o⟩ := Vals.two vr2
            show wpAny (model X.prog X.w) X.A (do rule "assign.swapped-stores"; let items ← unpackItems (.ref a) 3 none; assignInOrder [fun v => bindName X.env w v, fun v => bindName X.env y v, fun v => bindName X.env x v] items.reverse; pure Flow.next) _ _ _
            refine wpAny_bind (wpAny_rule (wpAny_bind (unpackItems_tuple (items := #[u1, u2, u3]) (I.ok.hd hc) ht fun h' hx' => ?_)))
            have I3 := I1.kept (h' := h') (t' := s1.toks) fun b o e => hx' b o (Nat.ne_of_lt (Heap.lt_size e)) e
            show wpAny _ _ (assignInOrder [fun v => bindName X.env w v, fun v => bindName X.env y v, fun v => bindName X.env x v] [u3, u2, u1] >>= fun _ => pure Flow.next) _ _ _
            refine wpAny_bind (assignInOrder_cons (wpAny_bindName (store_ok I3 hN hk (.inl hz) o (fun s2 I4 => ?_) (.inr hz))))
            refine assignInOrder_cons (wpAny_bindName (store_ok I4 hN hj (.inl hy) q (fun s2 I5 => ?_) (.inr hy)))
            refine assignInOrder_cons (wpAny_bindName (store_ok I5 hN hi (.inl hx) p (fun s3 I6 => assignInOrder_nil (wpAny_pure ?_)) (.inr hx)))
            exact ⟨_, H1, I6, f.nx _ _ _ _ e1 ((((hδ.mono e1).set hc3).set hb).set ha) m1 z1⟩
theorem ds_aug {i : Nat} {x : Str} {op : Operator} {o : D2} {pos' : Pos} (hN : X.N.Nodup) (hi : X.N[i]? = some x) (hx : Loc X.env.scope x) (he : EP' X T ex e ra) (ho : PIp X op (r2D (wd X T) o))
    (hf : X.fn x = true ∨ X.env.scope.names.lookup x = some .local) : SP' X T ex (.AugAssign (.Name x pos') op e pos) (rAug i o ra) :=
  PSw (ps_aug (i := i) hN hi hx he ho hf) fun D σ H ⟨δ, M, K, hδ, hM, ⟨x, ex1, z⟩, f⟩ => by
    obtain ⟨v, e1, d1⟩ := hδ.2 i x ex1
    exact ⟨v, e1, δ, M, _, hδ, hM, z, fun v1 H1 d M1 e2 d2 m2 z2 => ⟨x, d, M1, _, d1.mono e2, d2, m2, z2, fun v3 H3 d3 M3 e3 k3 m3 z3 => f.nx _ _ _ _ (e2.trans e3) ((hδ.mono (e2.trans e3)).set k3) m3 z3⟩⟩
/-! while -/
theorem ds_while {body : List Stmt} (hp : PassesOwn (model X.prog X.w) X.A X.env X.xe) (hc : TP' X T ex e tb) (hb : SsP' X T ex body r) : SP' X T ex (.While e body [] pos) (rWhile tb r) :=
  PSw (ps_while hp hc hb) fun D σ H ⟨δ, M, K, hδ, hM, ⟨I, ⟨m0, i0⟩, step⟩, f⟩ => by
    refine ⟨fun m σ' H' => ∃ δ' M', Ext X.K H H' ∧ DenS X.K H' δ' σ' ∧ Mr (wd X T) H' M' ∧ I m δ' M', ⟨m0, δ, M, .refl, hδ, hM, i0⟩, fun m σ1 H1 ⟨δ1, M1, e1, d1, m1, i1⟩ => ?_⟩
    refine ⟨δ1, M1, _, d1, m1, step m δ1 M1 i1, fun c H2 M2 e2 m2 z2 => ?_⟩
    cases c with
    | false => rw [if_neg Bool.false_ne_true] at z2 ⊢; exact f.nx _ _ _ _ (e1.trans e2) (d1.mono e2) m2 z2
    | true =>
      rw [if_pos rfl] at z2 ⊢
      refine ⟨fun σ' H' => ∃ m', m' < m ∧ ∃ δ' M', Ext X.K H H' ∧ DenS X.K H' δ' σ' ∧ Mr (wd X T) H' M' ∧ I m' δ' M', fun σ' H' ⟨m', hm, q⟩ => ⟨m', hm, q⟩, δ1, M2, _, d1.mono e2, m2, z2, ?_⟩
      have f2 := (f.mono e1).mono e2
      exact ⟨fun σ' H' δ' M' e3 d3 m3 ⟨δ4, M4, s1, s2, m', hm, z3⟩ => ⟨m', hm, δ4, M4, (e1.trans e2).trans e3, d3.sub s1, m3.sub s2, z3⟩, f2.rt, f2.nx, fun σ' H' δ' M' e3 d3 m3 ⟨δ4, M4, s1, s2, m', hm, z3⟩ => ⟨m', hm, δ4, M4, (e1.trans e2).trans e3, d3.sub s1, m3.sub s2, z3⟩⟩
/-! for -/
/-- the library's walk J goes over the items of it -/
def ItOk (W : Wd) (H : Hp) (J : It) (it : ItD) : Prop := ∀ (i : Nat) H' M', Ext W.K H H' → Mr W H' M' → it.keep M' →
  (∀ d, it.items[i]? = some d → J.go i H' ∧ ∀ x H'', J.yld i H' x H'' → Ext W.K H' H'' ∧ Den W.K H'' d x ∧ Mr W H'' M') ∧ (it.items.length = i → J.stop i H')
def tI (W : Wd) (ex : EK) (w : DI) : TI := fun σ H R => ∃ δ M q, DenS W.K H δ σ ∧ Mr W H M ∧ w ex δ M q ∧ ∀ J H' it M', Ext W.K H H' → Mr W H' M' → ItOk W H' J it → q it M' → R J H'
abbrev IP' (X : Cx) (T : List Addr) (ex : EK) (tg e : Expr) (w : DI) : Prop := PI X tg e (tI (wd X T) ex w)
theorem PIw {tg e : Expr} {t t' : TI} (h : PI X tg e t) (k : ∀ σ H R, t' σ H R → t σ H R) : PI X tg e t' := ⟨fun pins s σ H R I z => h.run pins s σ H R I (k σ H R z)⟩
theorem ds_for {tg : Expr} {body : List Stmt} {w : DI} {g : DG} {js : List Nat} (hp : PassesOwn (model X.prog X.w) X.A X.env X.xe) (hc : X.calm = true) (hi : IP' X T ex tg e w) (hg : GP' X T ex tg g js) (hb : SsP' X T ex body r)
    (hs : ∀ x, foldedSetIterable e X.env x = pure x) : SP' X T ex (.For tg e body [] pos) (rFor w g r) :=
  PSw (ps_for hp hc hi hg hb hs) fun D σ H ⟨δ, M, K, hδ, hM, z, f⟩ => ⟨δ, M, _, hδ, hM, z, fun J H1 it M1 e1 m1 ok ⟨I, i0, kp, step, fin⟩ => by
    refine ⟨fun i m σ' H' => i + m = it.items.length ∧ ∃ δ' M', Ext X.K H1 H' ∧ DenS X.K H' δ' σ' ∧ Mr (wd X T) H' M' ∧ I i δ' M', ⟨it.items.length, Nat.zero_add _, δ, M1, .refl, hδ.mono e1, m1, i0⟩, fun i m σ2 H2 ⟨em, δ2, M2, e2, d2, m2, i2⟩ => ?_⟩
    obtain ⟨o1, o2⟩ := ok i H2 M2 e2 m2 (kp _ _ _ i2)
    by_cases hlt : i < it.items.length
    · obtain ⟨o3, o4⟩ := o1 _ (List.getElem?_eq_getElem hlt)
      refine .inr ⟨o3, fun σ' H' => ∃ δ' M', Ext X.K H1 H' ∧ DenS X.K H' δ' σ' ∧ Mr (wd X T) H' M' ∧ I (i + 1) δ' M', fun σ' H' q => ⟨m - 1, by omega, by omega, q⟩, fun x H3 y => ?_⟩
      obtain ⟨e3, d3, m3⟩ := o4 x H3 y
      refine ⟨_, δ2, M2, _, d3, d2.mono e3, m3, step i _ δ2 M2 (List.getElem?_eq_getElem hlt) i2, fun σ4 H4 δ4 M4 _ e4 d4 m4 z4 => ⟨δ4, M4, _, d4, m4, z4, ?_⟩⟩
      have e5 := (e2.trans e3).trans e4
      have f2 := (f.mono e1).mono e5
      exact ⟨fun σ' H' δ' M' e6 d6 m6 ⟨δ7, M7, s1, s2, z7⟩ => ⟨δ7, M7, e5.trans e6, d6.sub s1, m6.sub s2, z7⟩, f2.rt, f2.nx, fun σ' H' δ' M' e6 d6 m6 ⟨δ7, M7, s1, s2, z7⟩ => ⟨δ7, M7, e5.trans e6, d6.sub s1, m6.sub s2, z7⟩⟩
    · have hge : it.items.length = i := by omega
      refine .inl ⟨o2 hge, f.nx _ _ _ _ (e1.trans e2) d2 m2 (fin _ _ ?_)⟩
      rw [hge]; exact i2⟩
end
end Lk
set_option Elab.async false
set_option linter.all false
set_option maxRecDepth 100000
set_option maxHeartbeats 1000000
/-! Lark, part 6: what is walked: lists, tuples, texts, ranges, zip and enumerate of these. -/
namespace Lk
open PySem PySem.Spec PyProof.Rows L2

/-! ### lists and tuples alike -/
def SqS (K : PySem.W.Frag) (k : Bool) (H : Hp) (a : Addr) (xs : List V) : Prop := if k = true then SqL K H a xs else SqT K H a xs
def IterS (k : Bool) (h : Heap) (it a : Addr) (i : Nat) : Prop := if k = true then h.IsListIter it a i else h.IsTupleIter it a i
def IsSeq (k : Bool) (h : Heap) (a : Addr) (its : Array Value) : Prop := if k = true then h.IsList a its else h.IsTuple a its
section
variable {X : Cx} {pins : List (Addr × Obj)} {σ : List (Option V)} {H : Hp} {s : Shared} {a : Addr} {xs ys : List V} {k : Bool}
theorem Inv.seqS (I : Inv X pins σ H s) (h : SqS X.K k H a xs) : ∃ its : List Value, Vals xs its ∧ IsSeq k s.heap a its.toArray := by
  cases k with
  | true => obtain ⟨its, r, p, _⟩ := I.list (show SqL X.K H a xs from h); exact ⟨its, r, p.isList⟩
  | false => obtain ⟨its, r, p, _⟩ := I.tuple (show SqT X.K H a xs from h); exact ⟨its, r, p⟩
theorem Inv.seqS_inj (I : Inv X pins σ H s) (h : SqS X.K k H a xs) (h' : SqS X.K k H a ys) : xs = ys := by
  cases k with
  | true => exact I.list_inj h h'
  | false => exact I.tuple_inj h h'
end
theorem IsSeq.lt {k : Bool} {h : Heap} {a : Addr} {its : Array Value} (x : IsSeq k h a its) : a < h.objs.size := by
  cases k with
  | true => obtain ⟨o, e, _⟩ := (show h.IsList a its from x); exact Heap.lt_size e
  | false => obtain ⟨o, e, _⟩ := (show h.IsTuple a its from x); exact Heap.lt_size e
theorem IterS.at {k : Bool} {h h' : Heap} {it a : Addr} {i : Nat} (x : IterS k h it a i) (e : ∀ o, h.get? it = some o → h'.get? it = some o) : IterS k h' it a i := by
  cases k with
  | true => exact Heap.IsListIter.at (show h.IsListIter it a i from x) e
  | false => exact Heap.IsTupleIter.at (show h.IsTupleIter it a i from x) e
theorem IterS.obj {k : Bool} {h : Heap} {it a : Addr} {i : Nat} (x : IterS k h it a i) : ∃ o, h.get? it = some o ∧ ∀ v, o.data ≠ .cell v := by
  cases k with
  | true => obtain ⟨o, e, _, d⟩ := (show h.IsListIter it a i from x); exact ⟨o, e, fun v z => by rw [d] at z; cases z⟩
  | false => obtain ⟨o, e, _, d⟩ := (show h.IsTupleIter it a i from x); exact ⟨o, e, fun v z => by rw [d] at z; cases z⟩
theorem drawsS {prog : Program} {w : World} {A : Around} (hh : A.handled = none) (k : Bool) (it a : Addr) (hne : a ≠ it) (its : Array Value) :
    Draws prog w A it [it, a] its.size (fun i v => its[i]? = some v) (fun i h => IterS k h it a i ∧ IsSeq k h a its) := by
  cases k with
  | true => exact Draws.list hh it a hne its
  | false => exact Draws.tuple hh it a hne its

/-- the pairs of two sequences, each pair a new tuple -/
def ItzS (K : PySem.W.Frag) (k l : Bool) (a b : Addr) : It :=
  ⟨fun i H => ∃ (xs ys : List V) (x y : V), SqS K k H a xs ∧ SqS K l H b ys ∧ xs[i]? = some x ∧ ys[i]? = some y,
    fun i H v H' => ∃ T x y, v = .ref T ∧ H T = none ∧ H' = upd H T (.tup [x, y]) ∧ (∀ xs, SqS K k H a xs → xs[i]? = some x) ∧ ∀ ys, SqS K l H b ys → ys[i]? = some y,
    fun i H => ∃ xs ys : List V, SqS K k H a xs ∧ SqS K l H b ys ∧ min xs.length ys.length = i⟩
theorem turn_zipS {P : Program} {w : World} {K : PySem.W.Frag} {elts : List Expr} {kk : Nat} {tpos : Pos} {a b z TI TO i1 i2 : Addr} (k l : Bool) (D : ZipSep2 z TI TO i1 i2 [i1, a] [i2, b]) (n1 : a ≠ i1) (n2 : b ≠ i2) :
    Turn P w K (.Tuple elts kk tpos) (ItzS K k l a b) [z, TI, TO, i1, i2] z (fun i h => IsZip h z TI TO .none ∧ IsTupOf2 h TI (.ref i1) (.ref i2) ∧ (∃ x y, IsTupOf2 h TO x y) ∧ IterS k h i1 a i ∧ IterS l h i2 b i) where
  mem := by simp
  obj := fun i h st c hc => by
    obtain ⟨hz, hTI, ⟨x, y, hTO⟩, h1, h2⟩ := st
    have e' : c = z ∨ c = TI ∨ c = TO ∨ c = i1 ∨ c = i2 := by simpa using hc
    rcases e' with q | q | q | q | q
    · rw [q]; exact ⟨_, hz, fun v q => nomatch q⟩
    · rw [q]; exact ⟨_, hTI, fun v q => nomatch q⟩
    · rw [q]; exact ⟨_, hTO, fun v q => nomatch q⟩
    · rw [q]; exact h1.obj
    · rw [q]; exact h2.obj
  keep := fun i h h' st k => by
    obtain ⟨hz, hTI, ⟨x, y, hTO⟩, h1, h2⟩ := st
    exact ⟨k z (by simp) _ hz, k TI (by simp) _ hTI, ⟨x, y, k TO (by simp) _ hTO⟩, h1.at fun o q => k i1 (by simp) o q, h2.at fun o q => k i2 (by simp) o q⟩
  item := by
    intro X hP hw hK hc i pins s σ H E I hf st hg
    subst hP hw hK
    obtain ⟨hz, hTI, ⟨x0, y0, hTO⟩, h1, h2⟩ := st
    obtain ⟨xs, ys, x, y, hqx, hqy, hx, hy⟩ := hg
    obtain ⟨its, rv, p⟩ := Inv.seqS I hqx
    obtain ⟨its2, rv2, p2⟩ := Inv.seqS I hqy
    obtain ⟨u, hu, ru⟩ := rv.get hx
    obtain ⟨u2, hu2, ru2⟩ := rv2.get hy
    have D1 := drawsS (prog := X.prog) (w := X.w) (A := X.A.in1) (I.ok.hd hc) k i1 a n1 its.toArray
    have D2 := drawsS (prog := X.prog) (w := X.w) (A := X.A.in1) (I.ok.hd hc) l i2 b n2 its2.toArray
    have i1l : i < its.toArray.size := by rw [List.size_toArray]; exact (List.getElem?_eq_some_iff.mp hu).1
    have i2l : i < its2.toArray.size := by rw [List.size_toArray]; exact (List.getElem?_eq_some_iff.mp hu2).1
    refine (WalksT.zipD2 D D1 D2).item i s _ _ (by omega) ⟨hz, hTI, ⟨x0, y0, hTO⟩, ⟨h1, p⟩, ⟨h2, p2⟩⟩ fun Tn vals h' tk pt hTz hT mid hk => ?_
    refine ⟨_, rfl, (WalksT.zipD2 D D1 D2).go elts kk tpos i Tn { s with heap := h', toks := tk } _ _ mid fun h'' st'' hk2 => ?_⟩
    obtain ⟨x1, x2, q1, q2, rfl⟩ := pt
    have eu : x1 = u := Option.some.inj (q1.symm.trans (by simpa using hu))
    have eu2 : x2 = u2 := Option.some.inj (q2.symm.trans (by simpa using hu2))
    subst eu eu2
    have ap := (WalksT.zipD2 D D1 D2).apart i Tn h' mid
    have hT2 : h''.IsTuple Tn #[x1, x2] := hT.at fun o e => hk2 Tn o ap e
    have new : ObjOk X.prog X.w (upd H Tn (.tup [x, y])) h'' Tn (.tup [x, y]) := ⟨by show 2 ≤ sizeLine; decide, [x1, x2], .cons ru (.cons ru2 .nil), hT2⟩
    have hwr : ∀ c, c ∉ [z, TI, TO, i1, i2] → c ∉ [z, TO, i1, i2] := fun c hc h => hc (by
      have e' : c = z ∨ c = TO ∨ c = i1 ∨ c = i2 := by simpa using h
      rcases e' with q | q | q | q <;> simp [q])
    have I1 : Inv X pins σ (upd H Tn (.tup [x, y])) { s with heap := h'', toks := tk } :=
      I.turnedNew (ch := [z, TI, TO, i1, i2]) (fun c o hb q => hk2 c o (hwr c hb) (hk c o (hwr c hb) q)) hf hTz new
    obtain ⟨g1, g2, g3, g4, g5⟩ := st''
    refine ⟨.ref Tn, _, I1, rfl, ⟨_, x, y, rfl, I.hok.fresh hTz, rfl, fun l hl => by rw [Inv.seqS_inj I hl hqx]; exact hx, fun l hl => by rw [Inv.seqS_inj I hl hqy]; exact hy⟩, ⟨g1, g2, g3, g4.1, g5.1⟩, fun c hcm => ?_⟩
    have hne : c ≠ Tn := by
      have hlt : c < s.heap.objs.size := by
        have e' : c = z ∨ c = TI ∨ c = TO ∨ c = i1 ∨ c = i2 := by simpa using hcm
        rcases e' with q | q | q | q | q
        · rw [q]; exact Heap.lt_size hz
        · rw [q]; exact Heap.lt_size hTI
        · rw [q]; exact Heap.lt_size hTO
        · rw [q]; obtain ⟨_, e1, _⟩ := h1.obj; exact Heap.lt_size e1
        · rw [q]; obtain ⟨_, e2, _⟩ := h2.obj; exact Heap.lt_size e2
      exact Nat.ne_of_lt (Nat.lt_of_lt_of_le hlt hTz)
    rw [upd_ne hne]
    exact (hf c hcm).1
  done := by
    intro X hP hw hK hc i pins s σ H E I hf st hg
    subst hP hw hK
    obtain ⟨hz, hTI, ⟨x0, y0, hTO⟩, h1, h2⟩ := st
    obtain ⟨xs, ys, hqx, hqy, hend⟩ := hg
    obtain ⟨its, rv, p⟩ := Inv.seqS I hqx
    obtain ⟨its2, rv2, p2⟩ := Inv.seqS I hqy
    have D1 := drawsS (prog := X.prog) (w := X.w) (A := X.A.in1) (I.ok.hd hc) k i1 a n1 its.toArray
    have D2 := drawsS (prog := X.prog) (w := X.w) (A := X.A.in1) (I.ok.hd hc) l i2 b n2 its2.toArray
    have e1 : min its.toArray.size its2.toArray.size = i := by rw [List.size_toArray, List.size_toArray, ← rv.length, ← rv2.length]; exact hend
    refine (WalksT.zipD2 D D1 D2).done s _ _ (by rw [e1]; exact ⟨hz, hTI, ⟨x0, y0, hTO⟩, ⟨h1, p⟩, ⟨h2, p2⟩⟩) fun h' tk hk => ⟨rfl, I.turnedL (ch := [z, TI, TO, i1, i2]) (fun c o hb q => hk c o (fun h => hb ?_) q) hf⟩
    have e' : c = z ∨ c = TO ∨ c = i1 ∨ c = i2 := by simpa using h
    rcases e' with q | q | q | q <;> simp [q]
  self := fun A i s Q E st h => wpAny_pyIter_zip st.1 h
/-- the numbered items of a sequence, each pair a new tuple -/
def IteS (K : PySem.W.Frag) (k : Bool) (a : Addr) : It :=
  ⟨fun i H => ∃ (xs : List V) (x : V), SqS K k H a xs ∧ xs[i]? = some x,
    fun i H v H' => ∃ T x, v = .ref T ∧ H T = none ∧ H' = upd H T (.tup [.int (i : Nat), x]) ∧ ∀ xs, SqS K k H a xs → xs[i]? = some x,
    fun i H => ∃ xs : List V, SqS K k H a xs ∧ xs.length = i⟩
theorem turn_enumS {P : Program} {w : World} {K : PySem.W.Frag} {elts : List Expr} {kk : Nat} {tpos : Pos} (k : Bool) {a e it : Addr} (hei : e ≠ it) (hea : e ≠ a) (hia : a ≠ it) :
    Turn P w K (.Tuple elts kk tpos) (IteS K k a) [e, it] e (fun i h => (∃ old, IsEnum h e it (0 + (i : Int)) old) ∧ IterS k h it a i) where
  mem := by simp
  obj := fun i h st c hc => by
    obtain ⟨⟨old, he⟩, h1⟩ := st
    have e' : c = e ∨ c = it := by simpa using hc
    rcases e' with q | q
    · rw [q]; exact ⟨_, he, fun v q => nomatch q⟩
    · rw [q]; exact h1.obj
  keep := fun i h h' st k => by
    obtain ⟨⟨old, he⟩, h1⟩ := st
    exact ⟨⟨old, k e (by simp) _ he⟩, h1.at fun o q => k it (by simp) o q⟩
  item := by
    intro X hP hw hK hc i pins s σ H E I hf st hg
    subst hP hw hK
    obtain ⟨⟨old, he⟩, h1⟩ := st
    obtain ⟨xs, x, hqx, hx⟩ := hg
    obtain ⟨its, rv, p⟩ := Inv.seqS I hqx
    obtain ⟨u, hu, ru⟩ := rv.get hx
    have D1 := drawsS (prog := X.prog) (w := X.w) (A := X.A.in1) (I.ok.hd hc) k it a hia its.toArray
    have nf : e ∉ [it, a] := by simp [hei, hea]
    have i1l : i < its.toArray.size := by rw [List.size_toArray]; exact (List.getElem?_eq_some_iff.mp hu).1
    refine (WalksT.enumFrom 0 D1 e hei nf (by simp)).item i s _ _ i1l ⟨⟨old, he⟩, h1, p⟩ fun Tn vals h' tk pt hTz hT mid hk => ?_
    refine ⟨_, rfl, (WalksT.enumFrom 0 D1 e hei nf (by simp)).go elts kk tpos i Tn { s with heap := h', toks := tk } _ _ mid fun h'' st'' hk2 => ?_⟩
    obtain ⟨t, x1, q1, rfl⟩ := pt
    have eu : x1 = u := Option.some.inj (q1.symm.trans (by simpa using hu))
    subst eu
    have ap := (WalksT.enumFrom 0 D1 e hei nf (by simp)).apart i Tn h' mid
    have hT2 : h''.IsTuple Tn #[.int (0 + (i : Int)) t, x1] := hT.at fun o e => hk2 Tn o ap e
    have new : ObjOk X.prog X.w (upd H Tn (.tup [.int (i : Nat), x])) h'' Tn (.tup [.int (i : Nat), x]) := ⟨by show 2 ≤ sizeLine; decide, [.int (0 + (i : Int)) t, x1], .cons ⟨t, by rw [Int.zero_add]⟩ (.cons ru .nil), hT2⟩
    have I1 : Inv X pins σ (upd H Tn (.tup [.int (i : Nat), x])) { s with heap := h'', toks := tk } :=
      I.turnedNew (ch := [e, it]) (fun c o hb q => hk2 c o hb (hk c o hb q)) hf hTz new
    obtain ⟨g1, g2⟩ := st''
    refine ⟨.ref Tn, _, I1, rfl, ⟨_, x, rfl, I.hok.fresh hTz, rfl, fun l hl => by rw [Inv.seqS_inj I hl hqx]; exact hx⟩, ⟨g1, g2.1⟩, fun c hcm => ?_⟩
    have hne : c ≠ Tn := by
      have hlt : c < s.heap.objs.size := by
        have e' : c = e ∨ c = it := by simpa using hcm
        rcases e' with q | q
        · rw [q]; exact Heap.lt_size he
        · rw [q]; obtain ⟨_, e1, _⟩ := h1.obj; exact Heap.lt_size e1
      exact Nat.ne_of_lt (Nat.lt_of_lt_of_le hlt hTz)
    rw [upd_ne hne]
    exact (hf c hcm).1
  done := by
    intro X hP hw hK hc i pins s σ H E I hf st hg
    subst hP hw hK
    obtain ⟨⟨old, he⟩, h1⟩ := st
    obtain ⟨xs, hqx, hend⟩ := hg
    obtain ⟨its, rv, p⟩ := Inv.seqS I hqx
    have D1 := drawsS (prog := X.prog) (w := X.w) (A := X.A.in1) (I.ok.hd hc) k it a hia its.toArray
    have nf : e ∉ [it, a] := by simp [hei, hea]
    have e1 : its.toArray.size = i := by rw [List.size_toArray, ← rv.length]; exact hend
    exact (WalksT.enumFrom 0 D1 e hei nf (by simp)).done s _ _ (by rw [e1]; exact ⟨⟨old, he⟩, h1, p⟩) fun h' tk hk => ⟨rfl, I.turnedL (ch := [e, it]) (fun c o hb q => hk c o hb q) hf⟩
  self := fun A i s Q E st h => let ⟨⟨_, he⟩, _⟩ := st; wpAny_pyIter_enum he h

/-- a fresh iterator of a sequence -/
def iterObj (k : Bool) (a : Addr) : Obj := if k = true then { cls := .type "list_iterator", data := .fields #[.ref a, .int 0 0] } else { cls := .type "tuple_iterator", data := .fields #[.ref a, .int 0 0] }
theorem beginsS (k : Bool) (a : Addr) (its : Array Value) : Begins (.ref a) (iterObj k a) (fun h => IsSeq k h a its) := by
  cases k with
  | true => exact begins_list a its
  | false => exact begins_tuple a its
theorem iterS_new {k : Bool} {h : Heap} {it a : Addr} (e : h.get? it = some (iterObj k a)) : IterS k h it a 0 := by
  cases k with
  | true => exact ⟨_, e, rfl, rfl⟩
  | false => exact ⟨_, e, rfl, rfl⟩

/-! ### readings -/
/-- what a value is walked as -/
def itOf (M : Mm) : D → Option ItD
  | .tup xs => some ⟨xs, fun _ => True⟩
  | .rol xs => some ⟨xs, fun _ => True⟩
  | .ref a => match M a with
    | some (.lst xs) => some ⟨xs, fun M' => M' a = some (.lst xs)⟩
    | _ => none
  | .str x => some ⟨x.cps.toList.map fun c => .str ⟨#[c]⟩, fun _ => True⟩
  | _ => none
def rItV (a : DE) : DI := fun ex δ M q => a ex δ M fun d M1 => ∃ J, itOf M1 d = some J ∧ q J M1
def rangeD (lo : Int) (n : Nat) : List D := (List.range n).map fun i => .int (lo + (i : Nat))
def rItR1 (a : DA) : DI := fun ex δ M q => a ex δ M fun ds M1 => ∃ j : Int, ds = [.int j] ∧ -(2 ^ 62) ≤ j ∧ j < 2 ^ 62 ∧ q ⟨rangeD 0 j.toNat, fun _ => True⟩ M1
def rItR2 (a : DA) : DI := fun ex δ M q => a ex δ M fun ds M1 => ∃ i j : Int, ds = [.int i, .int j] ∧ (-(2 ^ 62) ≤ i ∧ i < 2 ^ 62 ∧ -(2 ^ 62) ≤ j ∧ j < 2 ^ 62) ∧ q ⟨rangeD i (j - i).toNat, fun _ => True⟩ M1
/-- a list or tuple as a source -/
def srcOf (M : Mm) : D → Option ItD
  | .str _ => none
  | d => itOf M d
def zipD : List D → List D → List D
  | x :: xs, y :: ys => .tup [x, y] :: zipD xs ys
  | _, _ => []
def enumD (i : Nat) : List D → List D
  | [] => []
  | x :: xs => .tup [.int (i : Nat), x] :: enumD (i + 1) xs
def rItZ (a : DA) : DI := fun ex δ M q => a ex δ M fun ds M1 => ∃ x y J L, ds = [x, y] ∧ srcOf M1 x = some J ∧ srcOf M1 y = some L ∧ q ⟨zipD J.items L.items, fun M' => J.keep M' ∧ L.keep M'⟩ M1
def rItE (a : DA) : DI := fun ex δ M q => a ex δ M fun ds M1 => ∃ x J, ds = [x] ∧ srcOf M1 x = some J ∧ q ⟨enumD 0 J.items, J.keep⟩ M1
theorem zipD_length : ∀ xs ys : List D, (zipD xs ys).length = min xs.length ys.length
  | [], _ => by simp [zipD]
  | _ :: _, [] => by simp [zipD]
  | x :: xs, y :: ys => by simp only [zipD, List.length_cons, zipD_length xs ys]; omega
theorem zipD_get : ∀ (xs ys : List D) (i : Nat) (d : D), (zipD xs ys)[i]? = some d → ∃ x y, xs[i]? = some x ∧ ys[i]? = some y ∧ d = .tup [x, y]
  | [], _, i, d, h => by simp [zipD] at h
  | _ :: _, [], i, d, h => by simp [zipD] at h
  | x :: xs, y :: ys, 0, d, h => by simp [zipD] at h; exact ⟨x, y, rfl, rfl, h.symm⟩
  | x :: xs, y :: ys, i + 1, d, h => by simp [zipD] at h; obtain ⟨a, b, h1, h2, h3⟩ := zipD_get xs ys i d h; exact ⟨a, b, by simpa using h1, by simpa using h2, h3⟩
theorem enumD_length : ∀ (i : Nat) (xs : List D), (enumD i xs).length = xs.length
  | _, [] => rfl
  | i, x :: xs => by simp [enumD, enumD_length (i + 1) xs]
theorem enumD_get : ∀ (k : Nat) (xs : List D) (i : Nat) (d : D), (enumD k xs)[i]? = some d → ∃ x, xs[i]? = some x ∧ d = .tup [.int ((k + i : Nat)), x]
  | _, [], i, d, h => by simp [enumD] at h
  | k, x :: xs, 0, d, h => by simp [enumD] at h; exact ⟨x, rfl, h.symm⟩
  | k, x :: xs, i + 1, d, h => by
    simp [enumD] at h
    obtain ⟨a, h1, h2⟩ := enumD_get (k + 1) xs i d h
    refine ⟨a, by simpa using h1, ?_⟩
    rw [h2]
    have e : (k + 1 + i : Nat) = k + (i + 1) := by omega
    rw [e]
/-- enumerate(v) of what begins so -/
theorem meets_enumB {v : Value} {o : Obj} {P : Heap → Prop} (B : Begins v o P) : Meets (Builtin.«enumerate.__new__» ⟨[.type "enumerate", v], []⟩) (fun _ R s => P s.heap ∧
    R (.ok (.ret (.ref (s.heap.push o).objs.size))) { s with heap := (s.heap.push o).push { cls := .type "enumerate", data := .fields #[.none, .bool false, .ref s.heap.objs.size, rawInt 0, .none, .none] } }) :=
  .of_wp fun prog w A R ⟨hp, g, d, tk, os⟩ ⟨h1, h⟩ => by
    have sb := sub_enumerate
    have it : ∀ {A' : Around} {E' : Value → Shared → Prop} {Q' : Value → Shared → Prop}, Q' (.ref hp.objs.size) ⟨hp.push o, g, d, tk, os⟩ → wpAny (model prog w) A' (pyIter v) Q' E' ⟨hp, g, d, tk, os⟩ := fun q => B.iter prog w _ _ _ _ h1 q
    wp_walk using it
    refine wpAny_stack_any fun st => wpAny_pure ?_
    split
    · rename_i c _ _ _ _ _
      cases (c == Value.type "enumerate") <;> (wp_walk using it; exact ⟨_, rfl, h⟩)
    · wp_walk using it
      exact ⟨_, rfl, h⟩
theorem call_enumerateB {prog : Program} {w : World} {A : Around} {E : Value → Shared → Prop} {s : Shared} {v : Value} {o : Obj} {P : Heap → Prop} {Q : Value → Shared → Prop} (B : Begins v o P) (h1 : P s.heap)
    (h : ∀ h', IsEnum h' (s.heap.objs.size + 1) s.heap.objs.size 0 .none → h'.get? s.heap.objs.size = some o → h'.objs.size = s.heap.objs.size + 2 → (∀ b u, s.heap.get? b = some u → h'.get? b = some u) → Q (.ref (s.heap.objs.size + 1)) { s with heap := h' }) :
    wpAny (model prog w) A (call (.type "enumerate") [v]) Q E s := by
  refine callType_new F.called_enumerate (by decide) (F.typeCall_enumerate_1 _) (F.newCall_enumerate_1 _) (fun obj => F.args_object_init_2 obj _) F.entry_enumerate_new (meets_enumB B) ⟨h1, ?_⟩
  have hz : (s.heap.push o).objs.size = s.heap.objs.size + 1 := Heap.size_push ..
  show _ ∧ _
  rw [hz]
  have he := Heap.get?_push_size (s.heap.push o) (o := { cls := .type "enumerate", data := .fields #[.none, .bool false, .ref s.heap.objs.size, rawInt 0, .none, .none] }) rfl
  rw [hz] at he
  exact ⟨⟨_, he, rfl⟩, h _ he (Heap.get?_push_of_some _ (Heap.get?_push_size _ B.free)) (by rw [Heap.size_push, hz]) fun b u x => Heap.get?_push_of_some _ (Heap.get?_push_of_some _ x)⟩
section
variable {X : Cx} {T : List Addr} {ex : EK} {tg e : Expr} {ra : DE}
/-- a source: where it stands, and that it goes on standing there -/
theorem srcOf_ok {W : Wd} {H : Hp} {M : Mm} (hM : Mr W H M) {d : D} {v : V} {J : ItD} (h : srcOf M d = some J) (hd : Den W.K H d v) : ∃ k a, v = .ref a ∧ J.keep M ∧
    ∀ H' M', Ext W.K H H' → Mr W H' M' → J.keep M' → ∃ vs, SqS W.K k H' a vs ∧ DenL W.K H' J.items vs := by
  cases hd with
  | tup sq l => cases h; exact ⟨false, _, rfl, trivial, fun H' M' e1 m1 _ => ⟨_, e1.tup _ _ sq, l.mono e1⟩⟩
  | rol sq l => cases h; exact ⟨true, _, rfl, trivial, fun H' M' e1 m1 _ => ⟨_, (e1.rol _ _ sq).sq, l.mono e1⟩⟩
  | ref a =>
    cases q : M a with
    | none => simp [srcOf, itOf, q] at h
    | some o =>
      cases o with
      | lst xs =>
        simp [srcOf, itOf, q] at h
        subst h
        exact ⟨true, a, rfl, q, fun H' M' e1 m1 kp => let ⟨vs, e2, l⟩ := m1.obj _ _ kp; ⟨vs, SqL.of e2, l⟩⟩
      | dct _ => simp [srcOf, itOf, q] at h
      | ins _ _ _ => simp [srcOf, itOf, q] at h
  | _ => cases h
theorem di_val (he : EP' X T ex e ra) : IP' X T ex tg e (rItV ra) := by
  refine ⟨fun pins s σ H R I ⟨δ, M, q, hδ, hM, z, k⟩ => ?_⟩
  refine thn (he.run pins s σ H (fun v H1 => ∃ d M1 J, Ext X.K H H1 ∧ Den X.K H1 d v ∧ Mr (wd X T) H1 M1 ∧ itOf M1 d = some J ∧ q J M1) I ⟨δ, M, _, hδ, hM, z, fun v H1 d M1 e1 d1 m1 ⟨J, z1, z2⟩ => ⟨d, M1, J, e1, d1, m1, z1, z2⟩⟩) fun u s1 ⟨v, H1, I1, r1, d, M1, J, e1, d1, m1, z1, z2⟩ => ?_
  have seq : ∀ a vs its (kb : Bool), v = .ref a → SqS X.K kb H1 a vs → Vals vs its → IsSeq kb s1.heap a its.toArray → (∀ H' M', Ext X.K H1 H' → Mr (wd X T) H' M' → J.keep M' → ∃ vs, SqS X.K kb H' a vs ∧ DenL X.K H' J.items vs) →
      wpAny (model X.prog X.w) X.A (pyIter u) (PIE X pins σ tg R) X.xe s1 := fun a vs its kb ev sq rv hs kp => by
    subst ev
    cases r1
    have fp : ∀ b ∈ [s1.heap.objs.size], FpOk X pins H1 b := fun b hb => by
      have e : b = s1.heap.objs.size := by simpa using hb
      subst e
      exact I1.fpOk (Nat.le_refl _) (I1.hok.fresh (Nat.le_refl _))
    cases kb with
    | true =>
      refine wpAny_pyIter_list (show s1.heap.IsList a its.toArray from hs) ?_
      refine ⟨s1.heap.objs.size, [s1.heap.objs.size], _, _, H1, rfl, I1.kept (t' := s1.toks) fun b o e => Heap.get?_push_of_some _ e, turn_list a _, ⟨_, Heap.get?_push_size _ rfl, rfl, rfl⟩, fp, k _ H1 J M1 e1 m1 (fun i H' M' e2 m2 kp2 => ?_) z2⟩
      obtain ⟨ws, sw, lw⟩ := kp H' M' e2 m2 kp2
      refine ⟨fun d hd => ?_, fun hl => ⟨ws, sw, by rw [← lw.length]; exact Nat.le_of_eq hl⟩⟩
      obtain ⟨x, hx, dx⟩ := lw.get hd
      refine ⟨⟨ws, x, sw, hx⟩, fun y H'' ⟨eH, hy⟩ => ?_⟩
      subst eH
      have ex1 : y = x := Option.some.inj ((hy ws sw).symm.trans hx)
      subst ex1
      exact ⟨.refl, dx, m2⟩
    | false =>
      refine wpAny_pyIter_tuple (show s1.heap.IsTuple a its.toArray from hs) ?_
      refine ⟨s1.heap.objs.size, [s1.heap.objs.size], _, _, H1, rfl, I1.kept (t' := s1.toks) fun b o e => Heap.get?_push_of_some _ e, turn_tuple a _, ⟨_, Heap.get?_push_size _ rfl, rfl, rfl⟩, fp, k _ H1 J M1 e1 m1 (fun i H' M' e2 m2 kp2 => ?_) z2⟩
      obtain ⟨ws, sw, lw⟩ := kp H' M' e2 m2 kp2
      refine ⟨fun d hd => ?_, fun hl => ⟨ws, sw, by rw [← lw.length]; exact Nat.le_of_eq hl⟩⟩
      obtain ⟨x, hx, dx⟩ := lw.get hd
      refine ⟨⟨ws, x, sw, hx⟩, fun y H'' ⟨eH, hy⟩ => ?_⟩
      subst eH
      have ex1 : y = x := Option.some.inj ((hy ws sw).symm.trans hx)
      subst ex1
      exact ⟨.refl, dx, m2⟩
  by_cases hst : ∃ x, d = .str x
  · obtain ⟨x, rfl⟩ := hst
    cases d1
    obtain ⟨t, rfl⟩ := r1
    cases z1
    have kk : R (Its x) H1 := k _ H1 _ M1 e1 m1 (fun i H' M' e2 m2 _ => ⟨fun d hd => by
      simp only [List.getElem?_map, Array.getElem?_toList] at hd
      cases hc : x.cps[i]? with
      | none => rw [hc] at hd; cases hd
      | some c =>
        rw [hc] at hd; cases hd
        refine ⟨(Array.getElem?_eq_some_iff.mp hc).1, fun y H'' ⟨eH, c', hc', ey⟩ => ?_⟩
        rw [hc] at hc'; cases hc'
        subst eH ey
        exact ⟨.refl, .str _, m2⟩, fun hl => by
      have hl2 : x.cps.size = i := by simpa using hl
      exact Nat.le_of_eq hl2⟩) z2
    cases ha : x.cps.all (· < 128)
    · exact wpAny_pyIter_wide ha (pi_one (tk := s1.toks) I1 _ (turn_str _ x t "str_iterator" (.inr rfl)) ⟨_, Heap.get?_push_size _ rfl, rfl, rfl⟩ kk)
    · exact wpAny_pyIter_ascii ha (pi_one (tk := s1.toks) I1 _ (turn_str _ x t "str_ascii_iterator" (.inl rfl)) ⟨_, Heap.get?_push_size _ rfl, rfl, rfl⟩ kk)
  · have z1' : srcOf M1 d = some J := by
      cases d <;> first | exact z1 | exact (hst ⟨_, rfl⟩).elim
    obtain ⟨kb, a, ev, k0, kp⟩ := srcOf_ok m1 z1' d1
    obtain ⟨vs, sq, _⟩ := kp H1 M1 .refl m1 k0
    obtain ⟨its, rv, hs⟩ := Inv.seqS I1 sq
    exact seq a vs its kb ev sq rv hs kp
theorem rangeD_get {lo : Int} {n i : Nat} {d : D} (h : (rangeD lo n)[i]? = some d) : i < n ∧ d = .int (lo + (i : Nat)) := by
  have hi : i < n := by
    have := (List.getElem?_eq_some_iff.mp h).1
    simpa [rangeD] using this
  refine ⟨hi, ?_⟩
  simp only [rangeD, List.getElem?_map, List.getElem?_range hi] at h
  exact (Option.some.inj h).symm
theorem rangeD_length {lo : Int} {n : Nat} : (rangeD lo n).length = n := by simp [rangeD]
theorem itr_ok {W : Wd} {H : Hp} {lo : Int} {n : Nat} : ItOk W H (Itr lo n) ⟨rangeD lo n, fun _ => True⟩ := fun i H' M' e2 m2 _ =>
  ⟨fun d hd => ⟨(rangeD_get hd).1, fun x H'' ⟨eH, ey⟩ => by subst eH ey; rw [(rangeD_get hd).2]; exact ⟨.refl, .int _, m2⟩⟩, fun hl => by rw [rangeD_length] at hl; exact Nat.le_of_eq hl⟩
variable {a b : Expr} {rs : DA} {p pos : Pos}
theorem di_range1 (hg : Gl X "range") (hm : X.mg "range" = none) (ha : AP' X T ex [a] rs) (hs : starEach [a] X.env = [(false, eval a X.env)]) : IP' X T ex tg (.Call (.Name "range" p) [a] [] pos) (rItR1 rs) :=
  PIw (pi_range1 hg hm ha hs) fun σ H R ⟨δ, M, q, hδ, hM, z, k⟩ => ⟨δ, M, _, hδ, hM, z, fun vs H1 ds M1 e1 d1 m1 ⟨j, ed, h1, h2, z1⟩ => by
    subst ed
    cases d1 with | cons x y => cases x; cases y; exact ⟨j, rfl, h1, h2, k _ H1 _ M1 e1 m1 itr_ok z1⟩⟩
theorem di_range2 (hg : Gl X "range") (hm : X.mg "range" = none) (ha : AP' X T ex [a, b] rs) (hs : starEach [a, b] X.env = [(false, eval a X.env), (false, eval b X.env)]) (hs2 : starEach [b] X.env = [(false, eval b X.env)]) : IP' X T ex tg (.Call (.Name "range" p) [a, b] [] pos) (rItR2 rs) :=
  PIw (pi_range2 hg hm ha hs hs2) fun σ H R ⟨δ, M, q, hδ, hM, z, k⟩ => ⟨δ, M, _, hδ, hM, z, fun vs H1 ds M1 e1 d1 m1 ⟨i, j, ed, h1, z1⟩ => by
    subst ed
    cases d1 with | cons x y => cases x; cases y with | cons x y => cases x; cases y; exact ⟨i, j, rfl, h1, k _ H1 _ M1 e1 m1 itr_ok z1⟩⟩
theorem di_zip {elts : List Expr} {kk : Nat} {tpos : Pos} (hg : Gl X "zip") (hm : X.mg "zip" = none) (ha : AP' X T ex [a, b] rs) (hs : starEach [a, b] X.env = (false, eval a X.env) :: starEach [b] X.env) (hpl : (backTo pos (starEach [b] X.env)).any (·.1) = false) :
    IP' X T ex (.Tuple elts kk tpos) (.Call (.Name "zip" p) [a, b] [] pos) (rItZ rs) := by
  refine ⟨fun pins s σ H R I ⟨δ, M, q, hδ, hM, z, k⟩ => ?_⟩
  refine Call_ (ld_blt I hg hm PyProof.Rows.boot_zip (PyProof.Rows.callWith_type1 (thn (ha.run pos pins s σ H (fun vs H1 => ∃ ds M1, Ext X.K H H1 ∧ DenL X.K H1 ds vs ∧ Mr (wd X T) H1 M1 ∧ ∃ x y J L, ds = [x, y] ∧ srcOf M1 x = some J ∧ srcOf M1 y = some L ∧ q ⟨zipD J.items L.items, fun M' => J.keep M' ∧ L.keep M'⟩ M1) I
    ⟨δ, M, _, hδ, hM, z, fun vs H1 ds M1 e1 d1 m1 z1 => ⟨ds, M1, e1, d1, m1, z1⟩⟩) fun us s1 ⟨vs, H1, I1, r1, ds, M1, e1, d1, m1, x, y, J, L, ed, zx, zy, z1⟩ => ?_) hs hpl))
  subst ed
  cases d1 with
  | cons dx d1 =>
    cases d1 with
    | cons dy d1 =>
      cases d1
      obtain ⟨u1, u2, rfl, r, r'⟩ := Vals.two r1
      obtain ⟨kb, aa, rfl, k0, kp⟩ := srcOf_ok m1 zx dx
      obtain ⟨lb, bb, rfl, l0, lp⟩ := srcOf_ok m1 zy dy
      cases r
      cases r'
      obtain ⟨xs, sqx, _⟩ := kp H1 M1 .refl m1 k0
      obtain ⟨ys, sqy, _⟩ := lp H1 M1 .refl m1 l0
      obtain ⟨its, rv, hs1⟩ := Inv.seqS I1 sqx
      obtain ⟨its2, rv2, hs2⟩ := Inv.seqS I1 sqy
      have la := hs1.lt
      have lb' := hs2.lt
      have fin : ∀ h', IsZip h' (s1.heap.objs.size + 4) (s1.heap.objs.size + 2) (s1.heap.objs.size + 3) .none → IsTupOf2 h' (s1.heap.objs.size + 2) (.ref s1.heap.objs.size) (.ref (s1.heap.objs.size + 1)) →
          IsTupOf2 h' (s1.heap.objs.size + 3) .none .none → IterS kb h' s1.heap.objs.size aa 0 → IterS lb h' (s1.heap.objs.size + 1) bb 0 →
          (∀ c o, s1.heap.get? c = some o → h'.get? c = some o) → wpAny (model X.prog X.w) X.A (pyIter (.ref (s1.heap.objs.size + 4))) (PIE X pins σ (.Tuple elts kk tpos) R) X.xe { s1 with heap := h' } := fun h' hz hTI hTO h1 h2 hk => by
        refine wpAny_pyIter_zip hz ?_
        have I2 : Inv X pins σ H1 { s1 with heap := h' } := I1.kept (t' := s1.toks) hk
        have sep : ZipSep2 (s1.heap.objs.size + 4) (s1.heap.objs.size + 2) (s1.heap.objs.size + 3) s1.heap.objs.size (s1.heap.objs.size + 1) [s1.heap.objs.size, aa] [s1.heap.objs.size + 1, bb] :=
          zip_sep2 (fp1 := [aa]) (fp2 := [bb]) (fun b hb => by rw [List.mem_singleton.mp hb]; exact la) (fun b hb => by rw [List.mem_singleton.mp hb]; exact lb')
        refine ⟨s1.heap.objs.size + 4, [s1.heap.objs.size + 4, s1.heap.objs.size + 2, s1.heap.objs.size + 3, s1.heap.objs.size, s1.heap.objs.size + 1], _, _, H1, rfl, I2,
          turn_zipS kb lb sep (Nat.ne_of_lt la) (Nat.ne_of_lt (Nat.lt_succ_of_lt lb')), ⟨hz, hTI, ⟨_, _, hTO⟩, h1, h2⟩, fun c hcm => ?_, ?_⟩
        · have e' : c = s1.heap.objs.size + 4 ∨ c = s1.heap.objs.size + 2 ∨ c = s1.heap.objs.size + 3 ∨ c = s1.heap.objs.size ∨ c = s1.heap.objs.size + 1 := by simpa using hcm
          have hle : s1.heap.objs.size ≤ c := by
            rcases e' with z | z | z | z | z
            · rw [z]; exact Nat.le_add_right _ _
            · rw [z]; exact Nat.le_add_right _ _
            · rw [z]; exact Nat.le_add_right _ _
            · rw [z]; exact Nat.le_refl _
            · rw [z]; exact Nat.le_add_right _ _
          exact I1.fpOk hle (I1.hok.fresh hle)
        · refine k _ H1 ⟨zipD J.items L.items, fun M' => J.keep M' ∧ L.keep M'⟩ M1 e1 m1 (fun i H' M' e2 m2 ⟨kp1, kp2⟩ => ?_) z1
          obtain ⟨ws, sw, lw⟩ := kp H' M' e2 m2 kp1
          obtain ⟨ws2, sw2, lw2⟩ := lp H' M' e2 m2 kp2
          refine ⟨fun d hd => ?_, fun hl => ⟨ws, ws2, sw, sw2, by rw [← lw.length, ← lw2.length, ← zipD_length]; exact hl⟩⟩
          obtain ⟨p, q, hp, hq, rfl⟩ := zipD_get _ _ _ _ hd
          obtain ⟨x1, hx1, dx1⟩ := lw.get hp
          obtain ⟨y1, hy1, dy1⟩ := lw2.get hq
          refine ⟨⟨ws, ws2, x1, y1, sw, sw2, hx1, hy1⟩, fun v H'' ⟨Tn, x2, y2, ev, nT, eH, f1, f2⟩ => ?_⟩
          subst eH ev
          have ex1 : x2 = x1 := Option.some.inj ((f1 ws sw).symm.trans hx1)
          have ey1 : y2 = y1 := Option.some.inj ((f2 ws2 sw2).symm.trans hy1)
          subst ex1 ey1
          exact ⟨Ext.upd_new nT, .tup (SqT.of upd_same) (.cons (dx1.mono (Ext.upd_new nT)) (.cons (dy1.mono (Ext.upd_new nT)) .nil)), m2.newT nT⟩
      exact zip_begins2 (beginsS kb aa its.toArray) (beginsS lb bb its2.toArray) hs1 hs2 fun h' hz hTI hTO h1 h2 hsz hk => fin h' hz hTI hTO (iterS_new h1) (iterS_new h2) hk
theorem di_enum {elts : List Expr} {kk : Nat} {tpos : Pos} (hg : Gl X "enumerate") (hm : X.mg "enumerate" = none) (ha : AP' X T ex [a] rs) (hs : starEach [a] X.env = [(false, eval a X.env)]) :
    IP' X T ex (.Tuple elts kk tpos) (.Call (.Name "enumerate" p) [a] [] pos) (rItE rs) := by
  refine ⟨fun pins s σ H R I ⟨δ, M, q, hδ, hM, z, k⟩ => ?_⟩
  refine Call_ (ld_blt I hg hm boot_enumerate (PyProof.Rows.callWith_type1 (thn (ha.run pos pins s σ H (fun vs H1 => ∃ ds M1, Ext X.K H H1 ∧ DenL X.K H1 ds vs ∧ Mr (wd X T) H1 M1 ∧ ∃ x J, ds = [x] ∧ srcOf M1 x = some J ∧ q ⟨enumD 0 J.items, J.keep⟩ M1) I
    ⟨δ, M, _, hδ, hM, z, fun vs H1 ds M1 e1 d1 m1 z1 => ⟨ds, M1, e1, d1, m1, z1⟩⟩) fun us s1 ⟨vs, H1, I1, r1, ds, M1, e1, d1, m1, x, J, ed, zx, z1⟩ => ?_) hs rfl))
  subst ed
  cases d1 with
  | cons dx d1 =>
    cases d1
    obtain ⟨u1, rfl, r⟩ := Vals.one r1
    obtain ⟨kb, aa, rfl, k0, kp⟩ := srcOf_ok m1 zx dx
    cases r
    obtain ⟨xs, sqx, _⟩ := kp H1 M1 .refl m1 k0
    obtain ⟨its, rv, hs1⟩ := Inv.seqS I1 sqx
    have la := hs1.lt
    refine call_enumerateB (beginsS kb aa its.toArray) hs1 fun h' he h1 hsz hk => wpAny_pyIter_enum he ?_
    have I2 : Inv X pins σ H1 { s1 with heap := h' } := I1.kept (t' := s1.toks) hk
    refine ⟨s1.heap.objs.size + 1, [s1.heap.objs.size + 1, s1.heap.objs.size], _, _, H1, rfl, I2,
      turn_enumS kb (Nat.succ_ne_self _) (Nat.ne_of_gt (Nat.lt_succ_of_lt la)) (Nat.ne_of_lt la), ⟨⟨_, he⟩, iterS_new h1⟩, fun c hcm => ?_, ?_⟩
    · have e' : c = s1.heap.objs.size + 1 ∨ c = s1.heap.objs.size := by simpa using hcm
      have hle : s1.heap.objs.size ≤ c := by
        rcases e' with z | z
        · rw [z]; exact Nat.le_add_right _ _
        · rw [z]; exact Nat.le_refl _
      exact I1.fpOk hle (I1.hok.fresh hle)
    · refine k _ H1 _ M1 e1 m1 (fun i H' M' e2 m2 kp1 => ?_) z1
      obtain ⟨ws, sw, lw⟩ := kp H' M' e2 m2 kp1
      refine ⟨fun d hd => ?_, fun hl => ⟨ws, sw, by rw [← lw.length, ← enumD_length 0]; exact hl⟩⟩
      obtain ⟨p, hp, rfl⟩ := enumD_get _ _ _ _ hd
      obtain ⟨x1, hx1, dx1⟩ := lw.get hp
      refine ⟨⟨ws, x1, sw, hx1⟩, fun v H'' ⟨Tn, x2, ev, nT, eH, f1⟩ => ?_⟩
      subst eH ev
      have ex1 : x2 = x1 := Option.some.inj ((f1 ws sw).symm.trans hx1)
      subst ex1
      refine ⟨Ext.upd_new nT, .tup (SqT.of upd_same) (.cons ?_ (.cons (dx1.mono (Ext.upd_new nT)) .nil)), m2.newT nT⟩
      rw [Nat.zero_add]
      exact .int _
end
end Lk
set_option Elab.async false
set_option linter.all false
set_option maxRecDepth 100000
set_option maxHeartbeats 1000000
/-! Lark, part 7: all and any of a generator expression. -/
namespace Lk
open PySem PySem.Spec PyProof.Rows L2

/-- the slots of a generator expression: its own names, what it captures -/
def gin {α : Type} (n : Nat) (caps : List Nat) (σ : List (Option α)) : List (Option α) := List.replicate n none ++ caps.map fun j => (σ[j]?).join
structure GxOk (N : List Str) (sc : Scope) (own capn : List Str) (caps : List Nat) (scope : Scope) : Prop where
  kind : scope.kind = .function
  co : scope.isCoroutine = false
  cell : ∀ y ∈ scope.names, y.2 ≠ .cell
  dot : scope.names.lookup (".0" : Str) = some NameKind.local
  free : ∀ y ∈ scope.names, y.2 = .free → sc.names.lookup y.1 = some .cell ∨ sc.names.lookup y.1 = some .free
  capF : ∀ x ∈ capn, scope.names.lookup x = some .free
  ix : caps.map (fun i => N[i]?) = capn.map some
/-- the generator's context -/
abbrev gcx (X : Cx) (N : List Str) (s : Shared) (H : Hp) (cenv : Env) (A : Around) (fp : List Addr) (pn : List (Addr × Obj)) : Cx :=
  { X with N := N, s_0 := s, H_0 := H, env := cenv, A := A, outer := X.stack, stack := cenv :: X.stack, ex := fp, fn := fun _ => false, pn := pn, xe := fun _ _ => False }

theorem gin_some {α : Type} {n : Nat} {caps : List Nat} {σ : List (Option α)} {i : Nat} {v : α} (h : (gin n caps σ)[i]? = some (some v)) : ∃ j k, i = n + k ∧ caps[k]? = some j ∧ σ[j]? = some (some v) := by
  unfold gin at h
  by_cases hi : i < n
  · rw [List.getElem?_append_left (by simpa using hi), List.getElem?_replicate, if_pos hi] at h; cases h
  · rw [List.getElem?_append_right (by simpa using hi), List.length_replicate, List.getElem?_map] at h
    cases e : caps[i - n]? with
    | none => rw [e] at h; cases h
    | some j =>
      rw [e] at h
      have h' : (σ[j]?).join = some v := Option.some.inj h
      refine ⟨j, i - n, by omega, e, ?_⟩
      cases e2 : σ[j]? with
      | none => rw [e2] at h'; cases h'
      | some o => rw [e2] at h'; simp at h'; rw [h']
theorem gin_length {α : Type} {n : Nat} {caps : List Nat} {σ : List (Option α)} : (gin n caps σ).length = n + caps.length := by simp [gin]
theorem DenS.gin {K : PySem.W.Frag} {H : Hp} {δ : DSt} {σ : List (Option V)} (h : DenS K H δ σ) (n : Nat) (caps : List Nat) : DenS K H (gin n caps δ) (Lk.gin n caps σ) := by
  refine ⟨by rw [gin_length, gin_length], fun i d e => ?_⟩
  obtain ⟨j, k, rfl, e1, e2⟩ := gin_some e
  obtain ⟨v, e3, hd⟩ := h.2 j d e2
  refine ⟨v, ?_, hd⟩
  unfold Lk.gin
  rw [List.getElem?_append_right (by simp), List.length_replicate, Nat.add_sub_cancel_left, List.getElem?_map, e1]
  show some ((σ[j]?).join) = _
  rw [e3]; rfl

section
variable {X : Cx} {pins : List (Addr × Obj)} {σ : L2.St} {H : Hp} {s : Shared}
/-- the generator's frame is laid, its object too -/
theorem gx_start {scope : Scope} {own capn : List Str} {caps : List Nat} {fp : List Addr} {code : Value} {A : Around} {h' : Heap} {mm : Str → Option Value} {go : Obj} {g' : Array GenState} {tk : Nat}
    (I : Inv X pins σ H s) (ok : GxOk X.N X.env.scope own capn caps scope) (hfp : ∀ b ∈ fp, FpOk X pins H b ∧ b < s.heap.objs.size) (hA : A.handled = none) (hfr : A.frames = some (genEnv scope (cloFrom X.env.cells scope.names []) s.heap.objs.size code builtinsNs X.env :: X.stack))
    (hn : h'.Ns s.heap.objs.size mm) (hs : Heap.SameBut s.heap.objs.size (s.heap.push { cls := .type "frame", data := .dict #[] }) h') (hgo : ∀ v, go.data ≠ .cell v) (hgp : ∀ h : Heap, (h.push go).get? h.objs.size = some go) (hb : AllBare g') :
    Inv (gcx X (own ++ capn) s H (genEnv scope (cloFrom X.env.cells scope.names []) s.heap.objs.size code builtinsNs X.env) A fp [(h'.objs.size, go)]) [] (gin own.length caps σ) H { s with gens := g', toks := tk, heap := h'.push go } := by
  have hfree : ∀ y ∈ scope.names, y.2 = .free → ∃ c, X.env.cells.lookup y.1 = some c := fun y hy e => by
    rcases ok.free y hy e with k | k
    · exact I.ok.has _ (.inl k)
    · exact I.ok.has _ (.inr k)
  have cm : ∀ {y c}, (cloFrom X.env.cells scope.names []).lookup y = some c → X.env.cells.lookup y = some c ∧ c < s.heap.objs.size := fun {y c} hm => by
    rcases cloFrom_mem (PySem.mem_of_lookup hm) with hm | ⟨h1, rfl⟩
    · cases hm
    · obtain ⟨c, hc⟩ := hfree _ h1 rfl
      rw [hc]
      obtain ⟨w, z⟩ := I.cell _ _ hc
      exact ⟨rfl, z.lt⟩
  have look : ∀ {y}, scope.names.lookup y = some .free → ∃ c, (cloFrom X.env.cells scope.names []).lookup y = some c ∧ X.env.cells.lookup y = some c := fun {y} hl => by
    obtain ⟨c', e'⟩ := mem_lookup (cloFrom_has (cells := X.env.cells) (acc := []) (PySem.mem_of_lookup hl))
    exact ⟨c', e', (cm e').1⟩
  have kp0 : ∀ b o, s.heap.get? b = some o → h'.get? b = some o := fun b o e => hs.extBut b o (Nat.ne_of_lt (Heap.lt_size e)) (Heap.get?_push_of_some _ e)
  have kp : ∀ b o, s.heap.get? b = some o → (h'.push go).get? b = some o := fun b o e => Heap.get?_push_of_some _ (kp0 b o e)
  have hsz : h'.objs.size = s.heap.objs.size + 1 := by rw [hs.1, Heap.size_push]
  have hge : s.heap.objs.size ≤ h'.objs.size := by omega
  have gne : h'.objs.size ≠ s.heap.objs.size := by omega
  refine ⟨?_, I.os.symm ▸ rfl, hb, Un.kept kp, ⟨mm, hn.push _, fun i y v e1 e2 e3 => ?_⟩, fun y c e => ?_, I.hok.fresh (Nat.le_refl _), fun y c e => ?_, fun p hp => ?_, I.hok.kept kp, ?_⟩
  · refine ⟨I.ok.mod, ok.kind, I.ok.glob, rfl, Nat.le_refl _, fun y z c e1 e2 => I.ok.inj y z c (cm e1).1 (cm e2).1, fun y hy => ?_, fun y c z => absurd z (by simp), fun _ => hA, hfr, .inr ⟨rfl, rfl⟩, fun b hb => ⟨Nat.ne_of_lt (hfp b hb).2, fun y c e z => ?_⟩, I.bs, Nat.le_trans I.ok.bsz I.sz, fun b o e hb => ?_, fun b hb z => ?_, I.stack, I.stkFree⟩
    · have hy : scope.names.lookup y = some .cell ∨ scope.names.lookup y = some .free := hy
      rcases hy with hy | hy
      · exact absurd rfl (ok.cell _ (PySem.mem_of_lookup hy))
      · obtain ⟨c, h1, _⟩ := look hy
        exact ⟨c, h1⟩
    · exact (hfp b hb).1.2.2.2.2.1 y c (cm e).1 z
    · rcases (hfp b hb).1.2.2.2.1 with z | z
      · exact I.ok.noex b o e z
      · exact absurd (Nat.lt_of_lt_of_le (Heap.lt_size e) (Nat.le_trans I.ok.bsz z)) (Nat.lt_irrefl _)
    · rcases List.mem_cons.mp (I.stkSub b z) with z | z
      · exact (hfp b hb).1.2.1 z
      · exact (hfp b hb).1.2.2.1 z
  · obtain ⟨j, k, rfl, e4, e5⟩ := gin_some e2
    have e1 : (own ++ capn)[own.length + k]? = some y := e1
    rw [List.getElem?_append_right (by omega), Nat.add_sub_cancel_left] at e1
    have hfr : scope.names.lookup y = some .free := ok.capF y (List.mem_of_getElem? e1)
    have hN : X.N[j]? = some y := by
      have q := congrArg (fun l => l[k]?) ok.ix
      simp only [List.getElem?_map, e4, e1] at q
      simpa using q
    obtain ⟨m, _, hl⟩ := I.loc
    have hvis : Vis X.env.scope y := (ok.free _ (PySem.mem_of_lookup hfr) rfl).elim (fun k => .inr (.inl k)) (fun k => .inr (.inr k))
    obtain ⟨w, r, q⟩ := hl j y v hN e5 hvis
    refine ⟨w, r, .inr ⟨.inr hfr, ?_⟩⟩
    obtain ⟨c, h1, h2⟩ := look hfr
    rcases q with ⟨k, _⟩ | ⟨_, c', e', z⟩
    · have k : X.env.scope.names.lookup y = some .local := k
      rcases ok.free _ (PySem.mem_of_lookup hfr) rfl with k' | k' <;> rw [show X.env.scope.names.lookup y = _ from k'] at k <;> cases k
    · rw [h2] at e'; cases e'
      exact ⟨c, h1, z.keeps kp⟩
  · obtain ⟨w, z⟩ := I.cell y c (cm e).1
    exact ⟨w, z.keeps kp⟩
  · exact I.freeC y c (cm e).1
  · have hp' : p = (h'.objs.size, go) := by simpa using hp
    subst hp'
    refine ⟨hgp _, I.hok.fresh hge, gne, fun z => ?_, hgo⟩
    rcases List.mem_cons.mp (I.stkSub _ z) with z | z
    · have h1 : X.env.locals < h'.objs.size := Nat.lt_of_lt_of_le I.lt hge
      have z : h'.objs.size = X.env.locals := z
      rw [← z] at h1
      exact absurd h1 (Nat.lt_irrefl _)
    · exact I.nofs hge z
  · rw [gin_length]
    show own.length + caps.length = (own ++ capn).length
    have q := congrArg List.length ok.ix
    simp only [List.length_map] at q
    rw [List.length_append, q]
end

theorem over_gx {A : Around} {elt : Expr} {gens : List Comprehension} {scope : Scope} {pos : Pos} {it acc : Value} {env : Env} : A.over (.compLoop (.GeneratorExp elt gens scope pos) 0 it acc env) [] = A.deeper env := by
  first
    | rfl
    | (obtain ⟨hd, d, fr, gs, u⟩ := A; simp [Around.over, Around.deeper, marksOver, frameCount, unitsOf, envsOf, guardsOf, pushEnvs, pushGuards, Code.envs, Code.env?, Code.isFrame, Code.guards, Code.isGuard, Code.weight, Code.frames, Code.isCreation, Code.isCaller, Code.cUnits])
theorem over_gs {A : Around} {elt : Expr} {gens : List Comprehension} {scope : Scope} {pos : Pos} {it acc : Value} {env : Env} : A.over (.compStart (.GeneratorExp elt gens scope pos) 0 it acc env) [] = A.deeper env := by
  first
    | rfl
    | (obtain ⟨hd, d, fr, gs, u⟩ := A; simp [Around.over, Around.deeper, marksOver, frameCount, unitsOf, envsOf, guardsOf, pushEnvs, pushGuards, Code.envs, Code.env?, Code.isFrame, Code.guards, Code.isGuard, Code.weight, Code.frames, Code.isCreation, Code.isCaller, Code.cUnits])

/-- forgetting, of the memory alone -/
def Wm (P : Mm → Prop) : Mm → Prop := fun M => ∃ M', Sub M' M ∧ P M'
theorem Wm.of {P : Mm → Prop} {M : Mm} (h : P M) : Wm P M := ⟨M, .refl M, h⟩

section
variable {Y : Cx} {T : List Addr}
/-- at turn i -/
def GJ (Y : Cx) (T : List Addr) (H0 : Hp) (δ : DSt) (tn : Nat → Heap → Prop) (fp : List Addr) (P : Mm → Prop) (i : Nat) (s : Shared) : Prop :=
  ∃ σ H M, Inv Y [] σ H s ∧ Ext Y.K H0 H ∧ DenS Y.K H δ σ ∧ Mr (wd Y T) H M ∧ P M ∧ tn i s.heap ∧ ∀ b ∈ fp, H b = none
/-- behind -/
def GB (Y : Cx) (T : List Addr) (H0 : Hp) (P : Mm → Prop) (s : Shared) : Prop := ∃ σ H M, Inv Y [] σ H s ∧ Ext Y.K H0 H ∧ Mr (wd Y T) H M ∧ P M
theorem Inv.same {X : Cx} {pins : List (Addr × Obj)} {σ : L2.St} {H : Hp} {s s' : Shared} (I : Inv X pins σ H s) (h1 : s'.heap = s.heap) (h2 : s'.os = s.os) (h3 : AllBare s'.gens) : Inv X pins σ H s' := by
  refine I.call' (ch := []) h2 (by rw [h1]; exact Un.refl) (by rw [h1]; exact I.hok) h3 fun b z => by simp at z
theorem GJ.same {H0 : Hp} {δ : DSt} {tn : Nat → Heap → Prop} {fp : List Addr} {P : Mm → Prop} {i : Nat} {s s' : Shared} (h : GJ Y T H0 δ tn fp P i s) (h1 : s'.heap = s.heap) (h2 : s'.os = s.os) (h3 : AllBare s'.gens) : GJ Y T H0 δ tn fp P i s' := by
  obtain ⟨σ, H, M, a, b, c, d, e, f, g⟩ := h
  exact ⟨σ, H, M, Inv.same a h1 h2 h3, b, c, d, e, by rw [h1]; exact f, g⟩
theorem GB.same {H0 : Hp} {P : Mm → Prop} {s s' : Shared} (h : GB Y T H0 P s) (h1 : s'.heap = s.heap) (h2 : s'.os = s.os) (h3 : AllBare s'.gens) : GB Y T H0 P s' := by
  obtain ⟨σ, H, M, a, b, c, d⟩ := h
  exact ⟨σ, H, M, Inv.same a h1 h2 h3, b, c, d⟩
/-- what is handed out: a bool; if it is the one that stops, nothing more is asked -/
def GxY (stop : Bool) (a : Addr) (g : Nat) (Y : Cx) (T : List Addr) (H0 : Hp) (Ps : Mm → Prop) : Protocol := fun n s₀ v s kap =>
  ∃ b, v = .bool b ∧ AllBare s.gens ∧ s.heap.NoLimit ∧ s.heap.IsGen a g ∧ (b = stop → GB Y T H0 Ps s) ∧ (b ≠ stop → ∀ s'' : Shared, s''.heap = s.heap → s''.os = s.os → AllBare s''.gens → kap (.send .none) s'')
def GxR (Y : Cx) (T : List Addr) (H0 : Hp) (Pe : Mm → Prop) : GenEnd := fun n s₀ r s => r = .ok .next ∧ GB Y T H0 Pe s

theorem gx_seg {ex : EK} {B : Around} {elt tg iter : Expr} {scope : Scope} {pos : Pos} {J : It} {it : Addr} {fp : List Addr} {tn : Nat → Heap → Prop} {itd : ItD} {H0 : Hp} {δ : DSt} {js : List Nat} {g : DG} {re : DE} {stop : Bool} {I : Nat → Mm → Prop} {Ps : Mm → Prop}
    {a : Addr} {gn : Nat} {go : Obj} (hA : Y.A = B.deeper Y.env) (hc : Y.calm = true) (hco : Y.env.scope.isCoroutine = false) (hxe : ∀ e s, Y.xe e s → False) (hpn : Y.pn = [(a, go)]) (hgo : ∀ h : Heap, h.get? a = some go → h.IsGen a gn)
    (Tn : Turn Y.prog Y.w Y.K tg J fp it tn) (hfp : ∀ b ∈ fp, ∀ H', H' b = none → FpOk Y [] H' b) (hI : ItOk (wd Y T) H0 J itd)
    (hg : GP' Y T ex tg g js) (he : EP' Y T ex elt re) (hjs : ∀ j ∈ js, ∀ d, δ[j]? ≠ some (some d)) (kp : ∀ i M, I i M → itd.keep M)
    (step : ∀ i d M, itd.items[i]? = some d → I i M → g d ex δ M fun δ2 M2 => re ex δ2 M2 fun x M3 => ∃ b, x = .bl b ∧ if b = stop then Ps M3 else Wm (I (i + 1)) M3) :
    ∀ (k i n : Nat) (s₀ s : Shared), itd.items.length - i = k → k ≤ n → i ≤ itd.items.length → GJ Y T H0 δ tn fp (I i) i s →
      Seg (model Y.prog Y.w) B (GxR Y T H0 (I itd.items.length)) (GxY stop a gn Y T H0 Ps) n s₀ (.compLoop (.GeneratorExp elt [⟨tg, iter, [], 0⟩] scope pos) 0 (.ref it) .none Y.env)
        ((model Y.prog Y.w).den (.compLoop (.GeneratorExp elt [⟨tg, iter, [], 0⟩] scope pos) 0 (.ref it) .none Y.env)) [] s := by
  intro k
  induction k with
  | zero =>
    intro i n s₀ s hk hn hi hJ
    have hin : i = itd.items.length := by omega
    subst hin
    obtain ⟨σ, H, M, I1, e1, d1, m1, p1, t1, f1⟩ := hJ
    show Seg _ B _ _ n s₀ _ ((compTurn (.GeneratorExp elt [⟨tg, iter, [], 0⟩] scope pos) 0 (.ref it) .none Y.env).onRaise (leaving Y.env)) [] s
    rw [compTurn_gen, Sem.onRaise_eq_wrap]
    refine seg_bind_wrap (wpAny_standAt ?_)
    refine seg_bind_wrap ?_
    rw [over_gx, ← hA]
    refine thn (Tn.done Y rfl rfl rfl hc _ [] s σ H _ I1 (fun b hb => hfp b hb H (f1 b hb)) t1 ((hI _ H M e1 m1 (kp _ _ p1)).2 rfl)) fun r s1 ⟨hr, I2⟩ => ?_
    subst hr
    exact seg_end (.ok .next) ⟨rfl, σ, H, M, I2, e1, m1, p1⟩
  | succ k ih =>
    intro i n s₀ s hk hn hi hJ
    have hlt : i < itd.items.length := by omega
    obtain ⟨n, rfl⟩ : ∃ m, n = m + 1 := ⟨n - 1, by omega⟩
    obtain ⟨σ, H, M, I1, e1, d1, m1, p1, t1, f1⟩ := hJ
    show Seg _ B _ _ _ s₀ _ ((compTurn (.GeneratorExp elt [⟨tg, iter, [], 0⟩] scope pos) 0 (.ref it) .none Y.env).onRaise (leaving Y.env)) [] s
    rw [compTurn_gen, Sem.onRaise_eq_wrap]
    refine seg_bind_wrap (wpAny_standAt ?_)
    refine seg_bind_wrap ?_
    rw [over_gx, ← hA]
    obtain ⟨o3, o4⟩ := (hI _ H M e1 m1 (kp _ _ p1)).1 _ (List.getElem?_eq_getElem hlt)
    refine thn (Tn.item Y rfl rfl rfl hc i [] s σ H _ I1 (fun b hb => hfp b hb H (f1 b hb)) t1 o3) fun r s1 ⟨u, hr, h1⟩ => ?_
    subst hr
    refine seg_bind_wrap ?_
    rw [over_gx, ← hA]
    refine thn h1 fun _ s2 ⟨x, H2, I2, rx, y2, t2, f2⟩ => ?_
    obtain ⟨e2, dx, m2⟩ := o4 x H2 y2
    have I2' := I2.pinned (fun b hb => hfp b hb H2 (f2 b hb)) (Tn.obj _ _ t2)
    refine seg_bind_wrap ?_
    rw [over_gx, ← hA]
    refine wpAny_mono (hg.run _ s2 σ H2 x u (fun σ3 H3 => ∃ δ3 M3, But js σ σ3 ∧ Ext Y.K H2 H3 ∧ DenS Y.K H3 δ3 σ3 ∧ Mr (wd Y T) H3 M3 ∧ re ex δ3 M3 fun x M4 => ∃ b, x = .bl b ∧ if b = stop then Ps M4 else Wm (I (i + 1)) M4) I2' rx
      ⟨_, δ, M, _, dx, d1.mono e2, m2, step i _ M (List.getElem?_eq_getElem hlt) p1, fun σ' H' δ' M' a1 a2 a3 a4 a5 => ⟨δ', M', a1, a2, a3, a4, a5⟩⟩) (fun _ s3 ⟨σ3, H3, I3, δ3, M3, b3, e3, d3, m3, z3⟩ => ?_) fun e s3 z => (hxe e s3 z).elim
    simp only [List.forIn_nil]
    refine seg_bind_wrap (wpAny_pure ?_)
    simp only [if_true]
    have hy : ∀ v, yieldOut Y.env v = yieldValue v := fun v => by simp only [yieldOut, hco, Bool.false_eq_true, if_false]
    simp only [hy]
    rw [Sem.bind_eq_wrap', Sem.bind_eq_wrap', Sem.wrap_wrap, Sem.wrap_wrap]
    refine seg_wrap ?_
    rw [over_gx, ← hA]
    refine wpAny_mono (he.run _ s3 σ3 H3 (fun v H4 => ∃ b M4, v = .bl b ∧ Ext Y.K H3 H4 ∧ Mr (wd Y T) H4 M4 ∧ if b = stop then Ps M4 else Wm (I (i + 1)) M4) I3
      ⟨δ3, M3, _, d3, m3, z3, fun v H4 d M4 e4 d4 m4 ⟨b, eb, z4⟩ => by subst eb; cases d4; exact ⟨b, M4, rfl, e4, m4, z4⟩⟩) (fun v s4 ⟨vv, H4, I4, rv, b, M4, eb, e4, m4, z4⟩ => ?_) fun e s4 z => (hxe e s4 z).elim
    subst eb
    have rv : v = .bool b := rv
    subst rv
    have t4 : tn (i + 1) s4.heap := Tn.keep _ _ _ t2 fun b hb o e => (I4.pin (b, o) (List.mem_append_right _ (List.mem_append_right _ (mem_pinsAt hb e)))).1
    have f4 : ∀ b ∈ fp, H4 b = none := fun b hb => by
      obtain ⟨o, e, d⟩ := Tn.obj _ _ t2 b hb
      exact (I4.pin (b, o) (List.mem_append_right _ (List.mem_append_right _ (mem_pinsAt hb e)))).2.1
    have I5 : Inv Y [] σ3 H4 s4 := I4.unpinned
    have e04 := ((e1.trans e2).trans e3).trans e4
    have gen4 : s4.heap.IsGen a gn := hgo _ (I5.pin (a, go) (List.mem_append_left _ (by rw [hpn]; exact List.mem_singleton.mpr rfl))).1
    refine seg_at (seg_yield rfl rfl rfl ⟨b, rfl, I5.bare, I5.nolimit, gen4, fun hb => ?_, fun hb s'' q1 q2 q3 => ?_⟩)
    · rw [if_pos hb] at z4
      exact ⟨σ3, H4, M4, I5, e04, m4, z4⟩
    · rw [if_neg hb] at z4
      obtain ⟨M5, sb, p5⟩ := z4
      have dS : DenS Y.K H4 δ σ3 := by
        have d1' := d1.mono ((e2.trans e3).trans e4)
        refine ⟨d1'.1.trans b3.1.symm, fun j d ej => ?_⟩
        rw [b3.2 j fun hj => hjs j hj d ej]
        exact d1'.2 j d ej
      refine seg_again rfl (ih (i + 1) n s'' s'' (by omega) (by omega) hlt ?_)
      exact GJ.same (s := s4) ⟨σ3, H4, M5, I5, e04, dS, m4.sub sb, p5, t4, f4⟩ q1 q2 q3
end

section
variable {Y : Cx} {T : List Addr}
theorem gx_begin {ex : EK} {B : Around} {elt tg iter : Expr} {scope : Scope} {pos : Pos} {it : Addr} {tn : Nat → Heap → Prop} {J : It} {fp : List Addr} {R : GenEnd} {Yp : Protocol} {n : Nat} {s₀ s : Shared}
    (Tn : Turn Y.prog Y.w Y.K tg J fp it tn) (ht : tn 0 s.heap)
    (h : Seg (model Y.prog Y.w) B R Yp n s₀ (.compLoop (.GeneratorExp elt [⟨tg, iter, [], 0⟩] scope pos) 0 (.ref it) .none Y.env) ((model Y.prog Y.w).den (.compLoop (.GeneratorExp elt [⟨tg, iter, [], 0⟩] scope pos) 0 (.ref it) .none Y.env)) [] s) :
    Seg (model Y.prog Y.w) B R Yp n s₀ (.compStart (.GeneratorExp elt [⟨tg, iter, [], 0⟩] scope pos) 0 (.ref it) .none Y.env) ((model Y.prog Y.w).den (.compStart (.GeneratorExp elt [⟨tg, iter, [], 0⟩] scope pos) 0 (.ref it) .none Y.env)) [] s := by
  show Seg _ B _ _ _ s₀ _ ((compStart (.GeneratorExp elt [⟨tg, iter, [], 0⟩] scope pos) 0 (.ref it) .none Y.env).onRaise (leaving Y.env)) [] s
  unfold compStart
  rw [Sem.onRaise_eq_wrap]
  show Seg _ B _ _ _ s₀ _ ((ask >>= _).wrap _ _ _ _) [] s
  refine seg_bind_wrap (wpAny_askSetting ?_)
  split
  · exact seg_again rfl h
  · first
      | exact seg_bind_wrap (wpAny_rule (seg_bind_wrap (wpAny_standAt (seg_bind_wrap (Tn.self _ 0 s _ _ ht (seg_again rfl h))))))
      | (refine seg_bind_wrap (wpAny_rule ?_); show Seg _ B _ _ _ s₀ _ ((standAt iter.pos >>= _).wrap _ _ _ _) [] s; exact seg_bind_wrap (wpAny_standAt (seg_bind_wrap (Tn.self _ 0 s _ _ ht (seg_again rfl h)))))
theorem GB.kept {H0 : Hp} {P : Mm → Prop} {s : Shared} {h' : Heap} {g' : Array GenState} (h : GB Y T H0 P s) (k : ∀ b o, s.heap.get? b = some o → h'.get? b = some o) (hg : AllBare g') : GB Y T H0 P { s with heap := h', gens := g' } := by
  obtain ⟨σ, H, M, a, b, c, d⟩ := h
  exact ⟨σ, H, M, a.call' (ch := []) rfl (Un.kept k) (a.hok.kept k) hg fun b z => by simp at z, b, c, d⟩
theorem GB.bare {H0 : Hp} {P : Mm → Prop} {s : Shared} (h : GB Y T H0 P s) : AllBare s.gens := let ⟨_, _, _, a, _⟩ := h; a.bare
section
variable {A : Around} {R : Result → Shared → Prop} {a : Addr} {gn : Nat} {H0 : Hp} {Ps Pe : Mm → Prop}
theorem gx_all (hh : A.handled = none) (hd : A.depth < recursionLimit) (hend : ∀ s', GB Y T H0 Pe s' → R (.ok (.ret (.bool true))) s') (hstop : ∀ s', GB Y T H0 Ps s' → R (.ok (.ret (.bool false))) s') :
    ∀ (n : Nat) (s : Shared), s.heap.IsGen a gn → s.heap.NoLimit → (∃ gs, s.gens[gn]? = some gs ∧ gs.Goes (model Y.prog Y.w) A.in1.in1 (GxR Y T H0 Pe) (GxY false a gn Y T H0 Ps) n (.send .none) (s.setGen gn .running)) →
      codeAny (model Y.prog Y.w) A (.builtin "all.loop" ⟨[.ref a], []⟩) R s := by
  intro n
  induction n with
  | zero =>
    intro s hg hl ⟨gs, hgs, hgo⟩
    refine codeAny_builtin F.entry_all_loop ?_
    rw [Around.under_plainId F.plain_all_loop _]
    show wpAny _ A.in1 (pyNext (.ref a) >>= _) _ _ s
    refine wpAny_bind (wpAny_pyNext_genexpQ (A := A.in1) (P := fun n s₀ s₁ => GB Y T H0 Pe s₁) hh hl hd hg hgs hgo (fun v s₁ gs' hb hv => ?_) fun s₁ hp h' hk => ?_)
    · obtain ⟨b, rfl, h1, h2, h3, h4, h5⟩ := hv
      refine wpAny_bind (wpAny_holding (wpAny_truthy_bool ?_))
      refine wpAny_bind (wpAny_letGo ?_)
      cases b with
      | true => exact (h5 (by decide) s₁ rfl rfl h1).elim
      | false =>
        simp only [Bool.false_eq_true, if_false]
        refine wpAny_bind (wpAny_rule (wpAny_pure ?_))
        exact hstop _ ((h4 rfl).kept (fun _ _ e => e) (allBare_setGen h1 hb))
    · refine wpAny_bind (wpAny_rule (wpAny_pure ?_))
      exact hend _ (GB.kept (s := s₁) hp hk (allBare_setGen hp.bare rfl))
  | succ n ih =>
    intro s hg hl ⟨gs, hgs, hgo⟩
    have hgl : gn < s.gens.size := (Array.getElem?_eq_some_iff.mp hgs).1
    refine codeAny_builtin F.entry_all_loop ?_
    rw [Around.under_plainId F.plain_all_loop _]
    show wpAny _ A.in1 (pyNext (.ref a) >>= _) _ _ s
    refine wpAny_bind (GenW.wpAny_gsz (n := gn + 1) hgl (wpAny_pyNext_genexpQ (A := A.in1) (P := fun n s₀ s₁ => GB Y T H0 Pe s₁) hh hl hd hg hgs hgo (fun v s₁ gs' hb hv => ?_) fun s₁ hp h' hk => ?_))
    · intro hsz
      obtain ⟨b, rfl, h1, h2, h3, h4, h5⟩ := hv
      refine wpAny_bind (wpAny_holding (wpAny_truthy_bool ?_))
      refine wpAny_bind (wpAny_letGo ?_)
      cases b with
      | true =>
        simp only [if_true]
        refine wpAny_pure ⟨plainId_quiet F.plain_all_loop _, ?_⟩
        have hsz1 : gn < s₁.gens.size := by
          have q : (s₁.setGen gn gs').gens.size = s₁.gens.size := GenW.setGen_size _ _ _
          have hsz' : gn + 1 ≤ (s₁.setGen gn gs').gens.size := hsz
          omega
        refine ih (s₁.setGen gn gs') h3 h2 ⟨gs', setGen_at hsz1, ?_⟩
        exact h5 (by decide) _ rfl rfl (allBare_setGen (s := s₁.setGen gn gs') (allBare_setGen h1 hb) rfl)
      | false =>
        simp only [Bool.false_eq_true, if_false]
        refine wpAny_bind (wpAny_rule (wpAny_pure ?_))
        exact hstop _ ((h4 rfl).kept (fun _ _ e => e) (allBare_setGen h1 hb))
    · intro _
      refine wpAny_bind (wpAny_rule (wpAny_pure ?_))
      exact hend _ (GB.kept (s := s₁) hp hk (allBare_setGen hp.bare rfl))
theorem gx_any (hh : A.handled = none) (hd : A.depth < recursionLimit) (hend : ∀ s', GB Y T H0 Pe s' → R (.ok (.ret (.bool false))) s') (hstop : ∀ s', GB Y T H0 Ps s' → R (.ok (.ret (.bool true))) s') :
    ∀ (n : Nat) (s : Shared), s.heap.IsGen a gn → s.heap.NoLimit → (∃ gs, s.gens[gn]? = some gs ∧ gs.Goes (model Y.prog Y.w) A.in1.in1 (GxR Y T H0 Pe) (GxY true a gn Y T H0 Ps) n (.send .none) (s.setGen gn .running)) →
      codeAny (model Y.prog Y.w) A (.builtin "any.loop" ⟨[.ref a], []⟩) R s := by
  intro n
  induction n with
  | zero =>
    intro s hg hl ⟨gs, hgs, hgo⟩
    refine codeAny_builtin F.entry_any_loop ?_
    rw [Around.under_plainId F.plain_any_loop _]
    show wpAny _ A.in1 (pyNext (.ref a) >>= _) _ _ s
    refine wpAny_bind (wpAny_pyNext_genexpQ (A := A.in1) (P := fun n s₀ s₁ => GB Y T H0 Pe s₁) hh hl hd hg hgs hgo (fun v s₁ gs' hb hv => ?_) fun s₁ hp h' hk => ?_)
    · obtain ⟨b, rfl, h1, h2, h3, h4, h5⟩ := hv
      refine wpAny_bind (wpAny_holding (wpAny_truthy_bool ?_))
      refine wpAny_bind (wpAny_letGo ?_)
      cases b with
      | false => exact (h5 (by decide) s₁ rfl rfl h1).elim
      | true =>
        simp only [if_true]
        refine wpAny_bind (wpAny_rule (wpAny_pure ?_))
        exact hstop _ ((h4 rfl).kept (fun _ _ e => e) (allBare_setGen h1 hb))
    · refine wpAny_bind (wpAny_rule (wpAny_pure ?_))
      exact hend _ (GB.kept (s := s₁) hp hk (allBare_setGen hp.bare rfl))
  | succ n ih =>
    intro s hg hl ⟨gs, hgs, hgo⟩
    have hgl : gn < s.gens.size := (Array.getElem?_eq_some_iff.mp hgs).1
    refine codeAny_builtin F.entry_any_loop ?_
    rw [Around.under_plainId F.plain_any_loop _]
    show wpAny _ A.in1 (pyNext (.ref a) >>= _) _ _ s
    refine wpAny_bind (GenW.wpAny_gsz (n := gn + 1) hgl (wpAny_pyNext_genexpQ (A := A.in1) (P := fun n s₀ s₁ => GB Y T H0 Pe s₁) hh hl hd hg hgs hgo (fun v s₁ gs' hb hv => ?_) fun s₁ hp h' hk => ?_))
    · intro hsz
      obtain ⟨b, rfl, h1, h2, h3, h4, h5⟩ := hv
      refine wpAny_bind (wpAny_holding (wpAny_truthy_bool ?_))
      refine wpAny_bind (wpAny_letGo ?_)
      cases b with
      | false =>
        simp only [Bool.false_eq_true, if_false]
        refine wpAny_pure ⟨plainId_quiet F.plain_any_loop _, ?_⟩
        have hsz1 : gn < s₁.gens.size := by
          have q : (s₁.setGen gn gs').gens.size = s₁.gens.size := GenW.setGen_size _ _ _
          have hsz' : gn + 1 ≤ (s₁.setGen gn gs').gens.size := hsz
          omega
        refine ih (s₁.setGen gn gs') h3 h2 ⟨gs', setGen_at hsz1, ?_⟩
        exact h5 (by decide) _ rfl rfl (allBare_setGen (s := s₁.setGen gn gs') (allBare_setGen h1 hb) rfl)
      | true =>
        simp only [if_true]
        refine wpAny_bind (wpAny_rule (wpAny_pure ?_))
        exact hstop _ ((h4 rfl).kept (fun _ _ e => e) (allBare_setGen h1 hb))
    · intro _
      refine wpAny_bind (wpAny_rule (wpAny_pure ?_))
      exact hend _ (GB.kept (s := s₁) hp hk (allBare_setGen hp.bare rfl))
end
end

section
variable {K : PySem.W.Frag} {H : Hp} {P : Addr} {ps more : Array Value}
theorem Ext.tbl (hP : H P = some (.tbl ps)) (ht : TriplesOk (ps ++ more).toList) : Ext K H (upd H P (.tbl (ps ++ more))) := by
  have ne : ∀ b u, H b = some u → (∀ q, u ≠ .tbl q) → b ≠ P := fun b u e n z => by rw [z, hP] at e; exact n ps (Option.some.inj e).symm
  refine ⟨fun b xs z => ?_, fun b xs z => ?_, fun Q z => ?_⟩
  · rcases z with (z | ⟨u, z⟩) | z
    · exact .inl (.inl (by rw [upd_ne (ne b _ z fun q => nofun)]; exact z))
    · exact .inl (.inr ⟨u, by rw [upd_ne (ne b _ z fun q => nofun)]; exact z⟩)
    · exact .inr z
  · rcases z with ⟨u, z⟩ | z
    · exact .inl ⟨u, by rw [upd_ne (ne b _ z fun q => nofun)]; exact z⟩
    · exact .inr z
  · by_cases h : Q = P
    · subst h; exact ⟨_, upd_same, ht⟩
    · obtain ⟨qs, e, t⟩ := z
      exact ⟨qs, by rw [upd_ne h]; exact e, t⟩
theorem Mr.tbl {W : Wd} {M : Mm} (h : Mr W H M) (hP : H P = some (.tbl ps)) (ht : TriplesOk (ps ++ more).toList) : Mr W (upd H P (.tbl (ps ++ more))) M := by
  have e := Ext.tbl (K := W.K) (more := more) hP ht
  refine ⟨fun a o q => ?_, fun p m => e.tab p (h.tab p m)⟩
  have k := h.obj a o q
  have ne : a ≠ P := fun z => by
    subst z
    cases o with
    | lst ds => obtain ⟨vs, p, _⟩ := k; rw [hP] at p; cases p
    | dct kvs =>
      rcases k with ⟨vs, p, _⟩ | ⟨_, _, xs, p, _⟩
      · rw [hP] at p; cases p
      · rw [hP] at p; cases p
    | ins C dx fs => obtain ⟨fvs, p, _⟩ := k; rw [hP] at p; cases p
  exact k.mono e fun u z => (upd_ne ne).trans z
end

/-- all(e for .. in ..), any(e for .. in ..): stop, the value that ends it -/
def rAG (stop : Bool) (n : Nat) (caps : List Nat) (w : DI) (g : DG) (e : DE) : DE := fun ex δ M q => w ex δ M fun J M1 => ∃ I : Nat → Mm → Prop, I 0 M1 ∧ (∀ i M, I i M → J.keep M) ∧
  (∀ i d M, J.items[i]? = some d → I i M → g d ex (gin n caps δ) M fun δ2 M2 => e ex δ2 M2 fun x M3 => ∃ b, x = .bl b ∧ if b = stop then q (.bl stop) M3 else Wm (I (i + 1)) M3) ∧
  ∀ M, I J.items.length M → q (.bl (!stop)) M
def nmAG (stop : Bool) : Str := if stop then "any" else "all"
section
variable {X : Cx} {T : List Addr} {ex : EK}
theorem de_gx {stop : Bool} {x : Str} {c P : Addr} {elt tg iter : Expr} {p pos gpos : Pos} {scope : Scope} {own capn : List Str} {caps js : List Nat} {k : Nat} {w : DI} {g : DG} {re : DE}
    (hx : x = nmAG stop) (hr : RoomG (k + 1) X.A) (hc : X.calm = true) (hgl : Gl X x) (hm : X.mg x = none) (TB : GxR.TabB X.base X.mg c P) (hP : P ∈ T) (hcode : X.env.code = .ref c) (ok : GxOk X.N X.env.scope own capn caps scope)
    (hi : IP' X T ex tg iter w) (hs : ∀ v, genFold iter X.env v = pure v) (hjs : ∀ j ∈ js, j < own.length)
    (hg : ∀ (s : Shared) (H : Hp) (C : Addr) (cl : List (Str × Addr)) (code : Value) (bi : Addr) (A : Around) (fp : List Addr) (pn : List (Addr × Obj)), GP' (gcx X (own ++ capn) s H (genEnv scope cl C code bi X.env) A fp pn) T ex tg g js)
    (he : ∀ (s : Shared) (H : Hp) (C : Addr) (cl : List (Str × Addr)) (code : Value) (bi : Addr) (A : Around) (fp : List Addr) (pn : List (Addr × Obj)), RoomG k A → EP' (gcx X (own ++ capn) s H (genEnv scope cl C code bi X.env) A fp pn) T ex elt re)
    (hst : starEach [.GeneratorExp elt [⟨tg, iter, [], 0⟩] scope gpos] X.env = (false, eval (.GeneratorExp elt [⟨tg, iter, [], 0⟩] scope gpos) X.env) :: starEach [] X.env) :
    EP' X T ex (.Call (.Name x p) [.GeneratorExp elt [⟨tg, iter, [], 0⟩] scope gpos] [] pos) (rAG stop own.length caps w g re) := by
  refine ⟨fun pins s σ H Q I ⟨δ, M, q, hδ, hM, z, kk⟩ => ?_⟩
  have hfree : ∀ y ∈ scope.names, y.2 = .free → ∃ c, X.env.cells.lookup y.1 = some c := fun y hy e => by
    rcases ok.free y hy e with k | k
    · exact I.ok.has _ (.inl k)
    · exact I.ok.has _ (.inr k)
  -- the generator is made
  have made : wpAny (model X.prog X.w) X.A (eval (.GeneratorExp elt [⟨tg, iter, [], 0⟩] scope gpos) X.env) (fun v s5 => ∃ (a : Addr) (gn : Nat) (cd : Code) (Y : Cx) (H0 : Hp) (Pe Ps : Mm → Prop), v = .ref a ∧ Y.prog = X.prog ∧ Y.w = X.w ∧ s5.heap.IsGen a gn ∧ s5.heap.NoLimit ∧ s5.gens[gn]? = some (.fresh cd) ∧ AllBare s5.gens ∧
      (∃ n, ∀ s6 : Shared, s6.heap = s5.heap → s6.os = s5.os → AllBare s6.gens → Seg (model X.prog X.w) X.A.in1.in1 (GxR Y T H0 Pe) (GxY stop a gn Y T H0 Ps) n s6 cd ((model X.prog X.w).den cd) [] s6) ∧
      (∀ s', GB Y T H0 Pe s' → EP X pins σ Q (.bool (!stop)) s') ∧ ∀ s', GB Y T H0 Ps s' → EP X pins σ Q (.bool stop) s') X.xe s := by
    refine wpAny_GeneratorExp_make ok.co (closure_ok hfree) ok.cell ok.dot ok.kind hr.rm.depth ?_ hs
    refine thn (hi.run pins s σ H (fun J H1 => ∃ itd M1, Ext X.K H H1 ∧ Mr (wd X T) H1 M1 ∧ ItOk (wd X T) H1 J itd ∧ ∃ I : Nat → Mm → Prop, I 0 M1 ∧ (∀ i M, I i M → itd.keep M) ∧
      (∀ i d M, itd.items[i]? = some d → I i M → g d ex (gin own.length caps δ) M fun δ2 M2 => re ex δ2 M2 fun x M3 => ∃ b, x = .bl b ∧ if b = stop then q (.bl stop) M3 else Wm (I (i + 1)) M3) ∧ ∀ M, I itd.items.length M → q (.bl (!stop)) M) I
      ⟨δ, M, _, hδ, hM, z, fun J H1 itd M1 e1 m1 oi zz => ⟨itd, M1, e1, m1, oi, zz⟩⟩) fun xv s1 h1 => thn h1 fun itv s2 h2 => ?_
    obtain ⟨it, fp, tn, J, H2, rfl, I2, Tn, st2, f2, itd, M2, e2, m2, oi, Iv, i0, kp, step, fin⟩ := h2
    refine ⟨I2.nolimit, ?_⟩
    obtain ⟨ps, hPt, ht⟩ := m2.tab P hP
    have hPs : s2.heap.get? P = some { cls := .none, data := .fields ps } := I2.hok P _ hPt
    have cd : PySem.W.CodeHd s2.heap c P := TB.code.keeps I2.bk
    have cont : ∀ (code : Value) (h3 : Heap) (tk : Nat) (ps' : Array Value), Heap.ExtBut P s2.heap h3 → h3.get? P = some { cls := .none, data := .fields ps' } → (∃ more, ps' = ps ++ more) → TriplesOk ps'.toList →
        wpAny (model X.prog X.w) X.A (builtinsFor X.env.globals X.env.builtins) (fun bi s₄ => ∀ h', h'.Ns s₄.heap.objs.size (fun y => if y = ".0" then some (.ref it) else none) → Heap.SameBut s₄.heap.objs.size (s₄.heap.push { cls := .type "frame", data := .dict #[] }) h' →
          ∃ (a : Addr) (gn : Nat) (cd : Code) (Y : Cx) (H0 : Hp) (Pe Ps : Mm → Prop), Value.ref h'.objs.size = .ref a ∧ Y.prog = X.prog ∧ Y.w = X.w ∧
            (h'.push { cls := .type "generator", data := .fields #[.int s₄.gens.size 0, .str "<genexpr>" (s₄.toks + 1), .str (X.env.qual ++ "<genexpr>") (s₄.toks + 1 + 1)] }).IsGen a gn ∧
            (h'.push { cls := .type "generator", data := .fields #[.int s₄.gens.size 0, .str "<genexpr>" (s₄.toks + 1), .str (X.env.qual ++ "<genexpr>") (s₄.toks + 1 + 1)] }).NoLimit ∧
            (s₄.gens.push (.fresh (.compStart (.GeneratorExp elt [⟨tg, iter, [], 0⟩] scope gpos) 0 (.ref it) .none (genEnv scope (cloFrom X.env.cells scope.names []) s₄.heap.objs.size code bi X.env))))[gn]? = some (.fresh cd) ∧
            AllBare (s₄.gens.push (.fresh (.compStart (.GeneratorExp elt [⟨tg, iter, [], 0⟩] scope gpos) 0 (.ref it) .none (genEnv scope (cloFrom X.env.cells scope.names []) s₄.heap.objs.size code bi X.env)))) ∧
            (∃ n, ∀ s6 : Shared, s6.heap = (h'.push { cls := .type "generator", data := .fields #[.int s₄.gens.size 0, .str "<genexpr>" (s₄.toks + 1), .str (X.env.qual ++ "<genexpr>") (s₄.toks + 1 + 1)] }) → s6.os = s₄.os → AllBare s6.gens →
              Seg (model X.prog X.w) X.A.in1.in1 (GxR Y T H0 Pe) (GxY stop a gn Y T H0 Ps) n s6 cd ((model X.prog X.w).den cd) [] s6) ∧
            (∀ s', GB Y T H0 Pe s' → EP X pins σ Q (.bool (!stop)) s') ∧ ∀ s', GB Y T H0 Ps s' → EP X pins σ Q (.bool stop) s') X.xe { s2 with heap := h3, toks := tk } := by
      intro code h3 tk ps' hx3 hP3 ⟨more, em⟩ ht3
      subst em
      obtain ⟨bm, ob, e1, e2', e3, e4, e5, e6, e7, e8⟩ := TB.bm
      have keep3 : ∀ b u, b ≠ P → s2.heap.get? b = some u → h3.get? b = some u := fun b u hb e => hx3 b u hb e
      refine wpAny_builtinsFor (m := X.mg) (by rw [I2.ok.glob]; exact (I2.mod.glob.keeps I2.bk).extBut hx3 TB.gP) e1 e2' (keep3 _ _ e4 (I2.bk _ _ e5)) e6 e7 e8 ?_
      have I3 : Inv X pins σ (upd H2 P (.tbl (ps ++ more))) { s2 with heap := h3, toks := tk } := GxR.inv_tab (g' := s2.gens) (d' := s2.drawn) I2 hPt keep3 hP3 I2.bare
      have e3x : Ext X.K H2 (upd H2 P (.tbl (ps ++ more))) := Ext.tbl hPt ht3
      have m3 : Mr (wd X T) (upd H2 P (.tbl (ps ++ more))) M2 := m2.tbl hPt ht3
      have fne : ∀ b ∈ fp, b ≠ P := fun b hb z => by have q := (f2 b hb).1; rw [z, hPt] at q; cases q
      have f3 : ∀ b ∈ fp, FpOk X pins (upd H2 P (.tbl (ps ++ more))) b := fun b hb => ⟨by rw [upd_ne (fne b hb)]; exact (f2 b hb).1, (f2 b hb).2⟩
      have st3 : tn 0 h3 := Tn.keep _ _ _ st2 fun b hb o e => keep3 b o (fne b hb) e
      have fl3 : ∀ b ∈ fp, b < h3.objs.size := fun b hb => by obtain ⟨o, e, _⟩ := Tn.obj _ _ st3 b hb; exact Heap.lt_size e
      intro h' hn' hs'
      have hn' : h'.Ns h3.objs.size (fun y => if y = ".0" then some (.ref it) else none) := hn'
      have hs' : Heap.SameBut h3.objs.size (h3.push { cls := .type "frame", data := .dict #[] }) h' := hs'
      have hsz : h'.objs.size = h3.objs.size + 1 := by rw [hs'.1, Heap.size_push]
      have kp0 : ∀ b o, h3.get? b = some o → h'.get? b = some o := fun b o e => hs'.extBut b o (Nat.ne_of_lt (Heap.lt_size e)) (Heap.get?_push_of_some _ e)
      generalize hgo : ({ cls := .type "generator", data := .fields #[.int s2.gens.size 0, .str "<genexpr>" (tk + 1), .str (X.env.qual ++ "<genexpr>") (tk + 1 + 1)] } : Obj) = go
      have hgp : ∀ h : Heap, (h.push go).get? h.objs.size = some go := fun h => by rw [← hgo]; exact Heap.get?_push_size _ rfl
      have hgen : ∀ h : Heap, h.get? h'.objs.size = some go → h.IsGen h'.objs.size s2.gens.size := fun h e => ⟨go, _, _, e, by rw [← hgo], by rw [← hgo], by rw [← hgo]⟩
      have hgd : ∀ v, go.data ≠ .cell v := fun v q => by rw [← hgo] at q; cases q
      have hbare : AllBare (s2.gens.push (.fresh (.compStart (.GeneratorExp elt [⟨tg, iter, [], 0⟩] scope gpos) 0 (.ref it) .none (genEnv scope (cloFrom X.env.cells scope.names []) h3.objs.size code builtinsNs X.env)))) := AllBare.push I2.bare rfl
      have kp5 : ∀ b o, h3.get? b = some o → (h'.push go).get? b = some o := fun b o e => Heap.get?_push_of_some _ (kp0 b o e)
      have frA : X.A.in1.in1.frames = some X.stack := I.ok.frames
      have IY : ∀ s6 : Shared, s6.heap = h'.push go → s6.os = s2.os → AllBare s6.gens → Inv (gcx X (own ++ capn) { s2 with heap := h3, toks := tk } (upd H2 P (.tbl (ps ++ more))) (genEnv scope (cloFrom X.env.cells scope.names []) h3.objs.size code builtinsNs X.env) (X.A.in1.in1.deeper (genEnv scope (cloFrom X.env.cells scope.names []) h3.objs.size code builtinsNs X.env)) fp [(h'.objs.size, go)]) [] (gin own.length caps σ) (upd H2 P (.tbl (ps ++ more))) s6 := fun s6 q1 q2 q3 =>
        Inv.same (gx_start (tk := tk) (code := code) I3 ok (fun b hb => ⟨f3 b hb, fl3 b hb⟩) (show X.A.in1.in1.handled = none from hr.rm.hd) (Around.frames_deeper frA) hn' hs' hgd hgp hbare) q1 q2 q3
      have hI0 := IY { s2 with heap := h'.push go, gens := (s2.gens.push (.fresh (.compStart (.GeneratorExp elt [⟨tg, iter, [], 0⟩] scope gpos) 0 (.ref it) .none (genEnv scope (cloFrom X.env.cells scope.names []) h3.objs.size code builtinsNs X.env)))) } rfl rfl hbare
      have rmA : RoomG k (X.A.in1.in1.deeper (genEnv scope (cloFrom X.env.cells scope.names []) h3.objs.size code builtinsNs X.env)) := by
        refine ⟨⟨hr.rm.hd, ?_, ?_⟩, hr.gd⟩
        · have := hr.rm.dp
          show X.A.depth + 1 + 3 * k + 5 < _
          omega
        · have := hr.rm.un
          show X.A.units + 1 + 1 + 3 + 16 * k + 200 < _
          omega
      -- the outer state behind
      have back : ∀ (Pz : Mm → Prop) (b : Bool), (∀ M, Pz M → q (.bl b) M) → ∀ s', GB (gcx X (own ++ capn) { s2 with heap := h3, toks := tk } (upd H2 P (.tbl (ps ++ more))) (genEnv scope (cloFrom X.env.cells scope.names []) h3.objs.size code builtinsNs X.env) (X.A.in1.in1.deeper (genEnv scope (cloFrom X.env.cells scope.names []) h3.objs.size code builtinsNs X.env)) fp [(h'.objs.size, go)]) T (upd H2 P (.tbl (ps ++ more))) Pz s' →
          EP X pins σ Q (.bool b) s' := fun Pz b hz s' ⟨σ', H', M', J1, x1, y1, p1⟩ =>
        ⟨.bl b, H', I3.call' J1.os J1.base J1.hok J1.bare fun b hb => ⟨(f3 b hb).2.2.2.1, (f3 b hb).2.1, (f3 b hb).2.2.2.2.1, (f3 b hb).2.2.2.2.2⟩, rfl, kk _ _ _ M' ((e2.trans e3x).trans x1) (.bl b) y1 (hz M' p1)⟩
      refine ⟨h'.objs.size, s2.gens.size, _, gcx X (own ++ capn) { s2 with heap := h3, toks := tk } (upd H2 P (.tbl (ps ++ more))) (genEnv scope (cloFrom X.env.cells scope.names []) h3.objs.size code builtinsNs X.env) (X.A.in1.in1.deeper (genEnv scope (cloFrom X.env.cells scope.names []) h3.objs.size code builtinsNs X.env)) fp [(h'.objs.size, go)],
        upd H2 P (.tbl (ps ++ more)), Iv itd.items.length, fun M => q (.bl stop) M, rfl, rfl, rfl, hgen _ (hgp _), hI0.nolimit, Array.getElem?_push_size .., hbare, ⟨itd.items.length, fun s6 q1 q2 q3 => ?_⟩, back _ (!stop) fin, back _ stop fun _ h => h⟩
      have I6 := IY s6 q1 q2 q3
      have st6 : tn 0 s6.heap := by rw [q1]; exact Tn.keep _ _ _ st3 fun b _ o e => kp5 b o e
      have gne : h'.objs.size ≠ h3.objs.size := by omega
      refine gx_begin (ex := ex) (Y := gcx X (own ++ capn) { s2 with heap := h3, toks := tk } (upd H2 P (.tbl (ps ++ more))) (genEnv scope (cloFrom X.env.cells scope.names []) h3.objs.size code builtinsNs X.env) (X.A.in1.in1.deeper (genEnv scope (cloFrom X.env.cells scope.names []) h3.objs.size code builtinsNs X.env)) fp [(h'.objs.size, go)]) (J := J) (fp := fp) Tn st6 ?_
      refine gx_seg (ex := ex) (T := T) (Y := gcx X (own ++ capn) { s2 with heap := h3, toks := tk } (upd H2 P (.tbl (ps ++ more))) (genEnv scope (cloFrom X.env.cells scope.names []) h3.objs.size code builtinsNs X.env) (X.A.in1.in1.deeper (genEnv scope (cloFrom X.env.cells scope.names []) h3.objs.size code builtinsNs X.env)) fp [(h'.objs.size, go)])
        (δ := gin own.length caps δ) (js := js) (I := Iv) (Ps := fun M => q (.bl stop) M) (itd := itd) rfl hc ok.co (fun _ _ z => z) rfl hgen Tn (fun b hb H' hn => ⟨hn, Nat.ne_of_lt (fl3 b hb), fun z => ?_, .inl hb, fun y c e => ?_, fun p hp => ?_⟩)
        (fun i H' M' e' => oi i H' M' (e3x.trans e')) (hg _ _ _ _ _ _ _ _ _) (he _ _ _ _ _ _ _ _ _ rmA) (fun j hj d e => ?_) kp step itd.items.length 0 itd.items.length s6 s6 (Nat.sub_zero _) (Nat.le_refl _) (Nat.zero_le _)
        ⟨_, _, M2, I6, .refl, ?_, m3, i0, st6, fun b hb => (f3 b hb).1⟩
      · exact I6.ok.exfs b hb z
      · exact (I6.ok.exf b hb).2 y c e
      · have hp' : p = (h'.objs.size, go) := by simpa using hp
        subst hp'
        exact Nat.ne_of_gt (Nat.lt_of_lt_of_le (fl3 b hb) (by omega))
      · have hj' := hjs j hj
        obtain ⟨j', k', ej, _, _⟩ := gin_some e
        omega
      · exact (hδ.mono (e2.trans e3x)).gin _ _
    cases hf : codeAmong gpos ps.toList with
    | none =>
      refine wpAny_genexprCodeX hcode (cd.code hPs ht) (cd.tab hPs) hf fun c' h' tk hx3 hge hlt hco' _ htab' _ => ?_
      obtain ⟨o1, vs, f1, tf, fl, tg1, inF, tx, tt, op, _, _, _, _, _, _, _, _, _, htr, _⟩ := hco'
      exact cont _ h' tk _ hx3 htab'.2 ⟨_, rfl⟩ htr
    | some cv =>
      refine wpAny_genexprCode_hit hcode (cd.code hPs ht) hf ?_
      exact cont cv s2.heap s2.toks ps (Heap.ExtBut.refl _ _) hPs ⟨#[], by simp⟩ ht
  subst hx
  cases stop with
  | false =>
    refine wpAny_Call_Name_kw (ld_blt I hgl hm (show bootBuiltins "all" = some (.builtin "all") by rfl) ?_)
    refine PyProof.Rows.callWith_builtin1 ?_ hst (by rfl)
    rw [hst]
    refine Calls.spliced_cons (thn made fun v s5 ⟨a, gn, cd, Y, H0, Pe, Ps, ev, ep, ew, hg5, hl5, hgs5, hb5, ⟨n, hseg⟩, hend, hstop⟩ => ?_)
    subst ev
    refine Calls.spliced_nil ?_
    refine call_function_tree F.kind_all F.plain_all F.entry_all (F.args_all1 _) ?_
    unfold Builtin.«all»
    refine wpAny_bind (m := oneArg "all" _) (wpAny_pure ?_)
    refine wpAny_bind (wpAny_pyIter_gen hg5 ?_)
    have hgl5 : gn < s5.gens.size := (Array.getElem?_eq_some_iff.mp hgs5).1
    rw [← ep, ← ew] at hseg ⊢
    refine wpAny_pure ⟨plainId_quiet F.plain_all_loop _, gx_all (Y := Y) (T := T) (H0 := H0) (Ps := Ps) (Pe := Pe) hr.rm.hd hr.rm.depth (fun s' h => ?_) (fun s' h => ?_) n s5 hg5 hl5 ⟨_, hgs5, rfl, hseg _ rfl rfl (allBare_setGen hb5 rfl)⟩⟩
    · exact hend s' h
    · exact hstop s' h
  | true =>
    refine wpAny_Call_Name_kw (ld_blt I hgl hm (show bootBuiltins "any" = some (.builtin "any") by rfl) ?_)
    refine PyProof.Rows.callWith_builtin1 ?_ hst (by rfl)
    rw [hst]
    refine Calls.spliced_cons (thn made fun v s5 ⟨a, gn, cd, Y, H0, Pe, Ps, ev, ep, ew, hg5, hl5, hgs5, hb5, ⟨n, hseg⟩, hend, hstop⟩ => ?_)
    subst ev
    refine Calls.spliced_nil ?_
    refine call_function_tree F.kind_any F.plain_any F.entry_any (F.args_any1 _) ?_
    unfold Builtin.«any»
    refine wpAny_bind (m := oneArg "any" _) (wpAny_pure ?_)
    refine wpAny_bind (wpAny_pyIter_gen hg5 ?_)
    rw [← ep, ← ew] at hseg ⊢
    refine wpAny_pure ⟨plainId_quiet F.plain_any_loop _, gx_any (Y := Y) (T := T) (H0 := H0) (Ps := Ps) (Pe := Pe) hr.rm.hd hr.rm.depth (fun s' h => ?_) (fun s' h => ?_) n s5 hg5 hl5 ⟨_, hgs5, rfl, hseg _ rfl rfl (allBare_setGen hb5 rfl)⟩⟩
    · exact hend s' h
    · exact hstop s' h
end
end Lk
set_option Elab.async false
set_option linter.all false
set_option maxRecDepth 100000
set_option maxHeartbeats 1000000
/-! Lark, part 8: list comprehensions. -/
namespace Lk
open PySem PySem.Spec PyProof.Rows L2

def wipeG {α : Type} (σ : List (Option α)) : List Nat → List (Option α)
  | [] => σ
  | v :: vs => (wipeG σ vs).set v none
theorem wipeG_wipe (σ : L2.St) : ∀ vs, wipe σ vs = wipeG σ vs
  | [] => rfl
  | v :: vs => by unfold wipe wipeG; rw [wipeG_wipe σ vs]
theorem wipeG_get {α : Type} (σ : List (Option α)) (j : Nat) : ∀ vs : List Nat, (wipeG σ vs)[j]? = if j ∈ vs then (σ[j]?).map (fun _ => none) else σ[j]?
  | [] => by simp [wipeG]
  | v :: vs => by
    unfold wipeG
    by_cases h : v = j
    · subst h
      rw [List.getElem?_set_self', wipeG_get σ v vs, if_pos List.mem_cons_self]
      split <;> cases σ[v]? <;> rfl
    · rw [List.getElem?_set_ne h, wipeG_get σ j vs]
      have : (j ∈ v :: vs) ↔ j ∈ vs := by simp [Ne.symm h]
      simp only [this]
theorem wipeG_length {α : Type} (σ : List (Option α)) : ∀ vs : List Nat, (wipeG σ vs).length = σ.length
  | [] => rfl
  | v :: vs => by unfold wipeG; rw [List.length_set, wipeG_length σ vs]
theorem wipe_but {σ σ' : L2.St} {js vs : List Nat} (h : But js (wipe σ vs) σ') (hs : ∀ j ∈ js, j ∈ vs) : wipe σ' vs = wipe σ vs := by
  rw [wipeG_wipe, wipeG_wipe] at *
  apply List.ext_getElem?
  intro j
  rw [wipeG_get, wipeG_get]
  by_cases hj : j ∈ vs
  · rw [if_pos hj, if_pos hj]
    have l : σ'.length = σ.length := by rw [h.1, wipeG_length]
    cases e : σ[j]? with
    | none =>
      have e2 : σ'[j]? = none := by rw [List.getElem?_eq_none_iff] at e ⊢; omega
      rw [e2]
    | some o =>
      have hlt : j < σ'.length := by rw [l]; exact (List.getElem?_eq_some_iff.mp e).1
      rw [List.getElem?_eq_getElem hlt]; rfl
  · rw [if_neg hj, if_neg hj, h.2 j fun z => hj (hs j z), wipeG_get, if_neg hj]
theorem DenS.wipe {K : PySem.W.Frag} {H : Hp} {δ : DSt} {σ : L2.St} (h : DenS K H δ σ) (vs : List Nat) : DenS K H (wipeG δ vs) (L2.wipe σ vs) := by
  rw [wipeG_wipe]
  refine ⟨by rw [wipeG_length, wipeG_length]; exact h.1, fun i d e => ?_⟩
  rw [wipeG_get] at e ⊢
  split at e
  · cases q : δ[i]? with
    | none => rw [q] at e; cases e
    | some o => rw [q] at e; cases e
  · rename_i hn
    rw [if_neg hn]
    exact h.2 i d e

/-- [e for .. in .. if t] -/
def rLc (vs : List Nat) (w : DI) (g : DG) (t : DT) (e : DE) : DE := fun ex δ M q => w ex δ M fun J M1 => ∀ p, M1 p = none → ∃ I : Nat → Mm → Prop, I 0 (mset M1 p (.lst [])) ∧ (∀ i M, I i M → J.keep M) ∧
  (∀ i d M, J.items[i]? = some d → I i M → g d ex (wipeG δ vs) M fun δ2 M2 => t ex δ2 M2 fun c M3 => if c = true then e ex δ2 M3 fun y M4 => ∃ acc, M4 p = some (.lst acc) ∧ acc.length < sizeLine ∧ Wm (I (i + 1)) (mset M4 p (.lst (acc ++ [y]))) else Wm (I (i + 1)) M3) ∧
  ∀ M, I J.items.length M → q (.ref p) M
def rYes : DT := fun _ _ M q => q true M
section
variable {X : Cx} {T : List Addr} {ex : EK}
abbrev TsP' (X : Cx) (T : List Addr) (ex : EK) (ifs : List Expr) (t : DT) : Prop := PTs X ifs (tDT (wd X T) ex t)
theorem dts_nil : TsP' X T ex [] rYes := ⟨fun pins s σ H Q I ⟨δ, M, q, hδ, hM, z, k⟩ => pts_nil.run pins s σ H Q I (k _ _ _ .refl hM z)⟩
theorem dts_one {c : Expr} {t : DT} (h : TP' X T ex c t) : TsP' X T ex [c] t := pts_one h

theorem tLc_of {w : DI} {g : DG} {t : DT} {e : DE} {vs js : List Nat} (hjs : ∀ j ∈ js, j ∈ vs) (σ : L2.St) (H : Hp) (Q : VK) (h : tD (wd X T) ex (rLc vs w g t e) σ H Q) :
    tLc (tI (wd X T) ex w) (fun v σ H Q => ∃ d δ M q, Den X.K H d v ∧ DenS X.K H δ σ ∧ Mr (wd X T) H M ∧ g d ex δ M q ∧ ∀ σ' H' δ' M', But js σ σ' → Ext X.K H H' → DenS X.K H' δ' σ' → Mr (wd X T) H' M' → q δ' M' → Q σ' H') (tDT (wd X T) ex t) (tD (wd X T) ex e) vs σ H Q := by
  obtain ⟨δ, M, q, hδ, hM, z, kk⟩ := h
  refine ⟨δ, M, _, hδ, hM, z, fun J H1 itd M1 e1 m1 oi zz => fun D hD => ?_⟩
  obtain ⟨I, i0, kp, step, fin⟩ := zz D (m1.free hD)
  have eD : Ext X.K H1 (upd H1 D (.lst [])) := Ext.upd_new hD
  have m1' : Mr (wd X T) (upd H1 D (.lst [])) (mset M1 D (.lst [])) := m1.new (o := .lst []) hD ⟨[], upd_same, .nil⟩
  refine ⟨fun i m H' => i + m = itd.items.length ∧ ∃ M', Ext X.K (upd H1 D (.lst [])) H' ∧ Mr (wd X T) H' M' ∧ I i M', ⟨itd.items.length, Nat.zero_add _, _, .refl, m1', i0⟩, fun i m H2 ⟨em, M2, e2, m2, i2⟩ => ?_⟩
  obtain ⟨o1, o2⟩ := oi i H2 M2 (eD.trans e2) m2 (kp _ _ i2)
  by_cases hlt : i < itd.items.length
  · obtain ⟨o3, o4⟩ := o1 _ (List.getElem?_eq_getElem hlt)
    refine .inr ⟨o3, fun H' => ∃ M', Ext X.K (upd H1 D (.lst [])) H' ∧ Mr (wd X T) H' M' ∧ I (i + 1) M', fun H' q => ⟨m - 1, by omega, by omega, q⟩, fun x H3 y => ?_⟩
    obtain ⟨e3, d3, m3⟩ := o4 x H3 y
    have e13 := ((e1.trans eD).trans e2).trans e3
    refine ⟨_, wipeG δ vs, M2, _, d3, (hδ.mono e13).wipe vs, m3, step i _ M2 (List.getElem?_eq_getElem hlt) i2, fun σ4 H4 δ4 M4 b4 e4 d4 m4 z4 => ⟨wipe_but b4 hjs, δ4, M4, _, d4, m4, z4, fun c H5 M5 e5 m5 z5 => ?_⟩⟩
    have e25 := ((e2.trans e3).trans e4).trans e5
    cases c with
    | false =>
      rw [if_neg Bool.false_ne_true] at z5
      show (if false = true then _ else _ : Prop)
      rw [if_neg Bool.false_ne_true]
      obtain ⟨M6, sb, i6⟩ := z5
      exact ⟨M6, e25, m5.sub sb, i6⟩
    | true =>
      rw [if_pos rfl] at z5
      show (if true = true then _ else _ : Prop)
      rw [if_pos rfl]
      refine ⟨δ4, M5, _, d4.mono e5, m5, z5, fun v H6 d M6 e6 d6 m6 ⟨acc, ea, hl, M7, sb, i7⟩ => ?_⟩
      obtain ⟨vs6, eh, dl⟩ := m6.obj D _ ea
      refine ⟨vs6, eh, by rw [← dl.length]; exact hl, M7, (e25.trans e6).trans (Ext.upd_mut (by rw [eh]; trivial)), ?_, i7⟩
      refine (m6.put (u := .lst (vs6 ++ [v])) (o := .lst (acc ++ [d])) (by rw [eh]; trivial) ⟨_, upd_same, ?_⟩).sub sb
      exact (dl.append (.cons d6 .nil)).mono (Ext.upd_mut (by rw [eh]; trivial))
  · have hge : i = itd.items.length := by omega
    subst hge
    exact .inl ⟨o2 rfl, kk _ _ _ _ ((e1.trans eD).trans e2) (.ref D) m2 (fin _ i2)⟩
theorem de_lc {elt tg iter : Expr} {ifs : List Expr} {scope : Scope} {own : List (Str × Nat)} {pos : Pos} {w : DI} {g : DG} {t : DT} {e : DE} {js : List Nat} (hc : X.calm = true) (hN : X.N.Nodup) (hi : IP' X T ex tg iter w) (ok : BlkOk X.N X.env.scope scope own) (hjs : ∀ j ∈ js, j ∈ own.map (·.2))
    (hg : ∀ (s : Shared) (H : Hp) (C : Addr) (cl : List (Str × Addr)) (fp : List Addr), GP' (X.blk s H scope (compEnvC scope cl C X.env) fp) T ex tg g js) (ht : ∀ (s : Shared) (H : Hp) (C : Addr) (cl : List (Str × Addr)) (fp : List Addr), TsP' (X.blk s H scope (compEnvC scope cl C X.env) fp) T ex ifs t)
    (he : ∀ (s : Shared) (H : Hp) (C : Addr) (cl : List (Str × Addr)) (fp : List Addr), EP' (X.blk s H scope (compEnvC scope cl C X.env) fp) T ex elt e) (hs : ∀ x, foldedSetIterable iter X.env x = pure x) :
    EP' X T ex (.ListComp elt [⟨tg, iter, ifs, 0⟩] scope pos) (rLc (own.map (·.2)) w g t e) :=
  PEw (pe_lc hc hN hi ok hg ht he hs) fun σ H Q h => tLc_of hjs σ H Q h
theorem ds_setLc {i : Nat} {y : Str} {py : Pos} {elt tg iter : Expr} {ifs : List Expr} {scope : Scope} {own : List (Str × Nat)} {pos spos : Pos} {w : DI} {g : DG} {t : DT} {e : DE} {js : List Nat} (hc : X.calm = true) (hN : X.N.Nodup) (hy : X.N[i]? = some y) (hyl : X.env.scope.names.lookup y = some .local)
    (hsw : swapsWith (.ListComp elt [⟨tg, iter, ifs, 0⟩] scope pos) (some (.Name y py)) spos.line X.env = pure true) (hi : IP' X T ex tg iter w) (ok : BlkOk X.N X.env.scope scope own) (hjs : ∀ j ∈ js, j ∈ own.map (·.2))
    (hg : ∀ (s : Shared) (H : Hp) (C : Addr) (cl : List (Str × Addr)) (fp : List Addr), GP' (X.blk s H scope (compEnvC scope cl C X.env) fp) T ex tg g js) (ht : ∀ (s : Shared) (H : Hp) (C : Addr) (cl : List (Str × Addr)) (fp : List Addr), TsP' (X.blk s H scope (compEnvC scope cl C X.env) fp) T ex ifs t)
    (he : ∀ (s : Shared) (H : Hp) (C : Addr) (cl : List (Str × Addr)) (fp : List Addr), EP' (X.blk s H scope (compEnvC scope cl C X.env) fp) T ex elt e) (hs : ∀ x, foldedSetIterable iter X.env x = pure x) :
    SP' X T ex (.Assign [.Name y py] (.ListComp elt [⟨tg, iter, ifs, 0⟩] scope pos) spos) (rAsg (rLc (own.map (·.2)) w g t e) (rgName i)) :=
  PSw (ps_setLc hc hN hy hyl hsw hi ok hg ht he hs) fun D σ H ⟨δ, M, K, hδ, hM, z, f⟩ =>
    tLc_of hjs σ H _ ⟨δ, M, _, hδ, hM, z, fun v H1 d M1 e1 d1 m1 z1 => f.nx _ _ _ _ e1 ((hδ.mono e1).set d1) m1 z1⟩
end
end Lk
set_option Elab.async false
set_option linter.all false
set_option maxRecDepth 100000
set_option maxHeartbeats 1000000
/-! Lark, part 9: built-in functions, methods, subscripts, slices over data. -/
namespace Lk
open PySem PySem.Spec PyProof.Rows L2

section
variable {W : Wd} {H : Hp} {M : Mm}
/-- the length of a text, a tuple, a list -/
def lenOf (M : Mm) : D → Option Nat
  | .str z => some z.length
  | d => (itemsOf M d).map List.length
def strOk : D → Prop
  | .str z => z.length ≤ sizeLine
  | _ => True
/-- a type's name -/
def tyOf (M : Mm) : D → Option String
  | .non => some "NoneType"
  | .bl _ => some "bool"
  | .int _ => some "int"
  | .str _ => some "str"
  | .tup _ => some "tuple"
  | .rol _ => some "list"
  | .ref a => match M a with
    | some (.lst _) => some "list"
    | _ => none
  | .ty _ => none
theorem tyOf_ref {a : Addr} {t : String} (h : tyOf M (.ref a) = some t) : t = "list" ∧ ∃ xs, M a = some (.lst xs) := by
  have h : (match M a with
    | some (.lst _) => some "list"
    | _ => none) = some t := h
  split at h
  · rename_i xs e
    cases h
    exact ⟨rfl, xs, e⟩
  · cases h
theorem tyOf_ok {d : D} {v : V} {t : String} (hM : Mr W H M) (h : tyOf M d = some t) (hd : Den W.K H d v) : TyX W.K H v (.type t) := by
  cases hd with
  | non => cases h; exact .base .non
  | bl b => cases h; exact .base (.bl b)
  | int i => cases h; exact .base (.int i)
  | str x => cases h; exact .base (.str x)
  | ty n => cases h
  | tup s l =>
    cases h
    rcases s with (s | ⟨o, s⟩) | s
    · exact .base (.tup s)
    · exact .fTuple s
    · obtain ⟨o, its, n, hk, hc, _⟩ := s
      exact .kTuple hk hc
  | rol s l =>
    cases h
    rcases s with ⟨o, s⟩ | s
    · exact .base (.frz s)
    · obtain ⟨o, its, n, hk, hc, _⟩ := s
      exact .kList hk hc
  | ref a =>
    obtain ⟨rfl, xs, e⟩ := tyOf_ref h
    obtain ⟨vs, e1, _⟩ := hM.obj _ _ e
    exact .base (.lst e1)
theorem lenOf_ok {d : D} {v : V} {n : Nat} (hM : Mr W H M) (h : lenOf M d = some n) (hs : strOk d) (hd : Den W.K H d v) : LenV W.K v H n := by
  have gen : ∀ {d : D} {v : V}, (itemsOf M d).map List.length = some n → Den W.K H d v → LenV W.K v H n := fun {d v} h hd => by
    cases e : itemsOf M d with
    | none => rw [e] at h; cases h
    | some xs =>
      rw [e] at h
      have h : xs.length = n := Option.some.inj h
      obtain ⟨a, vs, rfl, sq, l⟩ := itemsOf_ok hM e hd
      rw [← h, l.length]
      rcases sq with sq | sq
      · exact .inl ⟨vs, sq, rfl⟩
      · exact .inr ⟨vs, sq, rfl⟩
  cases hd with
  | str x => cases h; exact ⟨hs, rfl⟩
  | non => cases h
  | bl b => cases h
  | int i => cases h
  | ty n => cases h
  | @tup a xs vs s l => exact gen (d := .tup xs) h (.tup s l)
  | @rol a xs vs s l => exact gen (d := .rol xs) h (.rol s l)
  | ref a => exact gen (d := .ref a) h (.ref a)
end
/-! ### functions -/
def bLen : DL := fun ds M q => match ds with
  | [d] => ∃ n, lenOf M d = some n ∧ strOk d ∧ q (.int n) M
  | _ => False
def bIsi : DL := fun ds M q => match ds with
  | [d, .ty T] => ∃ t r, tyOf M d = some t ∧ kitB t T = some r ∧ q (.bl r) M
  | _ => False
def bInt : DL := fun ds M q => match ds with
  | [.int i] => q (.int i) M
  | [.bl k] => q (.int (if k then 1 else 0)) M
  | _ => False
def bAbs : DL := fun ds M q => match ds with
  | [.int i] => q (.int (if i < 0 then -i else i)) M
  | _ => False
def bMax2 : DL := fun ds M q => match ds with
  | [.int i, .int j] => q (.int (if j > i then j else i)) M
  | _ => False
def bMin2 : DL := fun ds M q => match ds with
  | [.int i, .int j] => q (.int (if j < i then j else i)) M
  | _ => False
def bTuple : DL := fun ds M q => match ds with
  | [d] => ∃ xs, itemsOf M d = some xs ∧ q (.tup xs) M
  | _ => False
def bList : DL := fun ds M q => match ds with
  | [d] => ∃ xs, itemsOf M d = some xs ∧ ∀ p, M p = none → q (.ref p) (mset M p (.lst xs))
  | _ => False
def bStr : DL := fun ds M q => match ds with
  | [.int i] => i.natAbs.log2 < 1920 ∧ q (.str (toString i)) M
  | _ => False
/-- all, any of a list of bools -/
def bAll : DL := fun ds M q => match ds with
  | [d] => ∃ bs : List Bool, lsOf M d = some (bs.map D.bl) ∧ q (.bl (bs.all id)) M
  | _ => False
def bAny : DL := fun ds M q => match ds with
  | [d] => ∃ bs : List Bool, lsOf M d = some (bs.map D.bl) ∧ q (.bl (bs.any id)) M
  | _ => False
def bSum : DL := fun ds M q => match ds with
  | [d] => ∃ ns : List Int, lsOf M d = some (ns.map D.int) ∧ q (.int ns.sum) M
  | _ => False
def bMaxL : DL := fun ds M q => match ds with
  | [d] => ∃ ns : List Int, lsOf M d = some (ns.map D.int) ∧ 0 < ns.length ∧ ∀ m, m ∈ ns → (∀ y, y ∈ ns → y ≤ m) → q (.int m) M
  | _ => False
def bMinL : DL := fun ds M q => match ds with
  | [d] => ∃ ns : List Int, lsOf M d = some (ns.map D.int) ∧ 0 < ns.length ∧ ∀ m, m ∈ ns → (∀ y, y ∈ ns → m ≤ y) → q (.int m) M
  | _ => False
section
variable {X : Cx} {T : List Addr}
abbrev CL' (X : Cx) (T : List Addr) (f : Value) (r : DL) : Prop := CallR X f (rLD (wd X T) r)
theorem denL_map {α : Type} {K : PySem.W.Frag} {H : Hp} {f : α → D} {g : α → V} (hf : ∀ a v, Den K H (f a) v → v = g a) : ∀ {as : List α} {vs : List V}, DenL K H (as.map f) vs → vs = as.map g
  | [], _, .nil => rfl
  | a :: as, _, .cons h t => by rw [hf a _ h, denL_map hf t]; rfl
theorem den_bl {K : PySem.W.Frag} {H : Hp} (a : Bool) (v : V) (h : Den K H (.bl a) v) : v = .bl a := by cases h; rfl
theorem den_int {K : PySem.W.Frag} {H : Hp} (a : Int) (v : V) (h : Den K H (.int a) v) : v = .int a := by cases h; rfl
theorem den_str {K : PySem.W.Frag} {H : Hp} (a : Str) (v : V) (h : Den K H (.str a) v) : v = .str a := by cases h; rfl
theorem cl_len : CL' X T (.builtin "len") bLen := by
  intro pins s σ H xs us Q I r ⟨ds, M, q, hd, hM, z, k⟩
  match ds, hd, z with
  | [d], .cons h1 .nil, ⟨n, hl, hs, z⟩ => exact call_len pins s σ H _ us Q I r ⟨_, n, rfl, lenOf_ok hM hl hs h1, k _ _ _ _ .refl (.int _) hM z⟩
theorem cl_isi : CL' X T (.builtin "isinstance") bIsi := by
  intro pins s σ H xs us Q I r ⟨ds, M, q, hd, hM, z, k⟩
  match ds, hd, z with
  | [d, .ty Tn], .cons h1 (.cons (.ty _) .nil), ⟨t, b, ht, hk, z⟩ => exact call_isi pins s σ H _ us Q I r ⟨_, _, _, _, b, rfl, .ty Tn, tyOf_ok hM ht h1, kit_ty hk, k _ _ _ _ .refl (.bl _) hM z⟩
theorem cl_int : CL' X T (.type "int") bInt := by
  intro pins s σ H xs us Q I r ⟨ds, M, q, hd, hM, z, k⟩
  match ds, hd, z with
  | [.int i], .cons (.int _) .nil, z => exact call_int1 pins s σ H _ us Q I r (.inl ⟨i, rfl, k _ _ _ _ .refl (.int _) hM z⟩)
  | [.bl b], .cons (.bl _) .nil, z => exact call_int1 pins s σ H _ us Q I r (.inr ⟨b, rfl, k _ _ _ _ .refl (.int _) hM z⟩)
theorem cl_abs : CL' X T (.builtin "abs") bAbs := by
  intro pins s σ H xs us Q I r ⟨ds, M, q, hd, hM, z, k⟩
  match ds, hd, z with
  | [.int i], .cons (.int _) .nil, z => exact call_abs pins s σ H _ us Q I r ⟨i, rfl, k _ _ _ _ .refl (.int _) hM z⟩
theorem cl_max2 (hc : X.calm = true) : CL' X T (.builtin "max") bMax2 := by
  intro pins s σ H xs us Q I r ⟨ds, M, q, hd, hM, z, k⟩
  match ds, hd, z with
  | [.int i, .int j], .cons (.int _) (.cons (.int _) .nil), z => exact call_max2 hc pins s σ H _ us Q I r ⟨i, j, rfl, k _ _ _ _ .refl (.int _) hM z⟩
theorem cl_min2 (hc : X.calm = true) : CL' X T (.builtin "min") bMin2 := by
  intro pins s σ H xs us Q I r ⟨ds, M, q, hd, hM, z, k⟩
  match ds, hd, z with
  | [.int i, .int j], .cons (.int _) (.cons (.int _) .nil), z => exact call_min2 hc pins s σ H _ us Q I r ⟨i, j, rfl, k _ _ _ _ .refl (.int _) hM z⟩
theorem cl_str : CL' X T (.type "str") bStr := by
  intro pins s σ H xs us Q I r ⟨ds, M, q, hd, hM, z, k⟩
  match ds, hd, z with
  | [.int i], .cons (.int _) .nil, ⟨h, z⟩ => exact call_str_int pins s σ H _ us Q I r ⟨i, rfl, h, k _ _ _ _ .refl (.str _) hM z⟩
theorem cl_tuple : CL' X T (.type "tuple") bTuple := by
  intro pins s σ H xs us Q I r ⟨ds, M, q, hd, hM, z, k⟩
  match ds, hd, z with
  | [d], .cons h1 .nil, ⟨ys, hi, z⟩ =>
    obtain ⟨a, vs, rfl, sq, l⟩ := itemsOf_ok hM hi h1
    refine call_tuple_of pins s σ H _ us Q I r ⟨a, vs, rfl, ?_⟩
    rcases sq with sq | sq
    · exact .inl ⟨sq, fun p hp => k _ _ _ _ (Ext.upd_new hp) (.tup (SqT.of upd_same) (l.mono (Ext.upd_new hp))) (hM.newT hp) z⟩
    · exact .inr ⟨sq, k _ _ _ _ .refl (.tup sq l) hM z⟩
theorem cl_list : CL' X T (.type "list") bList := by
  intro pins s σ H xs us Q I r ⟨ds, M, q, hd, hM, z, k⟩
  match ds, hd, z with
  | [d], .cons h1 .nil, ⟨ys, hi, z⟩ =>
    obtain ⟨a, vs, rfl, sq, l⟩ := itemsOf_ok hM hi h1
    exact call_list_of pins s σ H _ us Q I r ⟨a, vs, rfl, sq, fun p hp => k _ _ _ _ (Ext.upd_new hp) (.ref p) (hM.new (o := .lst ys) hp ⟨vs, upd_same, l.mono (Ext.upd_new hp)⟩) (z p (hM.free hp))⟩
theorem cl_all (hc : X.calm = true) : CL' X T (.builtin "all") bAll := by
  intro pins s σ H xs us Q I r ⟨ds, M, q, hd, hM, z, k⟩
  match ds, hd, z with
  | [d], .cons h1 .nil, ⟨bs, hi, z⟩ =>
    obtain ⟨a, vs, rfl, sq, l⟩ := lsOf_ok hM hi h1
    rw [denL_map (f := D.bl) (g := V.bl) den_bl l] at sq
    exact cr_all hc pins s σ H _ us Q I r ⟨a, bs, rfl, sq, k _ _ _ _ .refl (.bl _) hM z⟩
theorem cl_any (hc : X.calm = true) : CL' X T (.builtin "any") bAny := by
  intro pins s σ H xs us Q I r ⟨ds, M, q, hd, hM, z, k⟩
  match ds, hd, z with
  | [d], .cons h1 .nil, ⟨bs, hi, z⟩ =>
    obtain ⟨a, vs, rfl, sq, l⟩ := lsOf_ok hM hi h1
    rw [denL_map (f := D.bl) (g := V.bl) den_bl l] at sq
    exact cr_any hc pins s σ H _ us Q I r ⟨a, bs, rfl, sq, k _ _ _ _ .refl (.bl _) hM z⟩
theorem cl_sum (hc : X.calm = true) : CL' X T (.builtin "sum") bSum := by
  intro pins s σ H xs us Q I r ⟨ds, M, q, hd, hM, z, k⟩
  match ds, hd, z with
  | [d], .cons h1 .nil, ⟨ns, hi, z⟩ =>
    obtain ⟨a, vs, rfl, sq, l⟩ := lsOf_ok hM hi h1
    rw [denL_map (f := D.int) (g := V.int) den_int l] at sq
    exact cr_sum hc pins s σ H _ us Q I r ⟨a, ns, rfl, sq, k _ _ _ _ .refl (.int _) hM z⟩
theorem cl_maxL (hc : X.calm = true) : CL' X T (.builtin "max") bMaxL := by
  intro pins s σ H xs us Q I r ⟨ds, M, q, hd, hM, z, k⟩
  match ds, hd, z with
  | [d], .cons h1 .nil, ⟨ns, hi, hn, z⟩ =>
    obtain ⟨a, vs, rfl, sq, l⟩ := lsOf_ok hM hi h1
    rw [denL_map (f := D.int) (g := V.int) den_int l] at sq
    exact cr_max hc pins s σ H _ us Q I r ⟨a, ns, rfl, sq, hn, fun m h1 h2 => k _ _ _ _ .refl (.int _) hM (z m h1 h2)⟩
theorem cl_minL (hc : X.calm = true) : CL' X T (.builtin "min") bMinL := by
  intro pins s σ H xs us Q I r ⟨ds, M, q, hd, hM, z, k⟩
  match ds, hd, z with
  | [d], .cons h1 .nil, ⟨ns, hi, hn, z⟩ =>
    obtain ⟨a, vs, rfl, sq, l⟩ := lsOf_ok hM hi h1
    rw [denL_map (f := D.int) (g := V.int) den_int l] at sq
    exact cr_min hc pins s σ H _ us Q I r ⟨a, ns, rfl, sq, hn, fun m h1 h2 => k _ _ _ _ .refl (.int _) hM (z m h1 h2)⟩
end

/-! ### subscripts and slices -/
/-- the item of a list or tuple; the sign of a text -/
def oIx : D2 := fun x y M q => ∃ i, y = .int i ∧ ((∃ xs d, itemsOf M x = some xs ∧ atI xs i = some d ∧ q d M) ∨ ∃ z c, x = .str z ∧ z.length ≤ sizeLine ∧ atI z.cps.toList i = some c ∧ q (.str ⟨#[c]⟩) M)
def cutD (xs : List D) (lo hi : Option Int) : List D := (xs.drop (HT.sIx xs.length 0 lo)).take (HT.sIx xs.length xs.length hi - HT.sIx xs.length 0 lo)
abbrev DO := EK → DSt → Mm → (Option Int → Mm → Prop) → Prop
def rNoP : DO := fun _ _ M q => q none M
def rPart (a : DE) : DO := fun ex δ M q => a ex δ M fun d M1 => ∃ i, d = .int i ∧ q (some i) M1
def cutK (x : D) (lo hi : Option Int) (M : Mm) (q : Kd) : Prop := match x with
  | .tup xs => q (.tup (cutD xs lo hi)) M
  | .str z => z.length ≤ sizeLine ∧ q (.str (cutS z lo hi)) M
  | d => ∃ xs, lsOf M d = some xs ∧ ∀ p, M p = none → q (.ref p) (mset M p (.lst (cutD xs lo hi)))
def rCut (a : DE) (l h : DO) : DE := fun ex δ M q => a ex δ M fun x M1 => l ex δ M1 fun lo M2 => h ex δ M2 fun hi M3 => cutK x lo hi M3 q
section
variable {X : Cx} {T : List Addr} {ex : EK} {a b e : Expr} {ra rb : DE} {pos p2 : Pos}
theorem atI_den {K : PySem.W.Frag} {H : Hp} {xs : List D} {vs : List V} {i : Int} {d : D} (l : DenL K H xs vs) (h : atI xs i = some d) : ∃ v, atI vs i = some v ∧ Den K H d v := by
  unfold atI at h ⊢
  rw [← l.length]
  cases e : ixN xs.length i with
  | none => rw [e] at h; cases h
  | some j => rw [e] at h; exact l.get h
theorem de_ix (ha : EP' X T ex a ra) (hb : EP' X T ex b rb) (hs : PlainIx b) : EP' X T ex (.Subscript a b pos) (rBin oIx ra rb) :=
  PEw (pe_ix ix_seq ha hb hs) fun σ H Q h => tD_bin (o := oIx) σ H Q (fun x y H Q ⟨d, e, M, q, hd, he, hM, ⟨i, ei, z⟩, k⟩ => by
    subst ei; cases he
    rcases z with ⟨xs, d1, h1, h2, z⟩ | ⟨zz, c, rfl, hl, h2, z⟩
    · obtain ⟨p, vs, rfl, sq, l⟩ := itemsOf_ok hM h1 hd
      obtain ⟨v, h3, d2⟩ := atI_den l h2
      rcases sq with sq | sq
      · exact .inl ⟨p, vs, i, v, rfl, rfl, sq, h3, k _ _ _ _ .refl d2 hM z⟩
      · exact .inr (.inl ⟨p, vs, i, v, rfl, rfl, sq, h3, k _ _ _ _ .refl d2 hM z⟩)
    · cases hd
      exact .inr (.inr ⟨zz, i, c, rfl, rfl, hl, h2, k _ _ _ _ .refl (.str _) hM z⟩)) h
theorem cut_den {K : PySem.W.Frag} {H : Hp} {xs : List D} {vs : List V} {lo hi : Option Int} (l : DenL K H xs vs) : DenL K H (cutD xs lo hi) (cutV vs lo hi) := by
  unfold cutD cutV
  rw [l.length]
  exact (l.drop _).take _
theorem cut_full {xs : List D} {lo hi : Option Int} (h : HT.sIx xs.length 0 lo = 0 ∧ HT.sIx xs.length xs.length hi = xs.length) : cutD xs lo hi = xs := by
  unfold cutD
  rw [h.1, h.2]
  simp
abbrev OP'' (X : Cx) (T : List Addr) (ex : EK) (o : Option Expr) (r : DO) : Prop := PO X o fun σ H Q => ∃ δ M q, DenS X.K H δ σ ∧ Mr (wd X T) H M ∧ r ex δ M q ∧ ∀ i H' M', Ext X.K H H' → Mr (wd X T) H' M' → q i M' → Q i H'
theorem do_none : OP'' X T ex none rNoP := by
  have h : PO X none tNoPart := po_none
  exact ⟨fun pins s σ H Q I ⟨δ, M, q, hδ, hM, z, k⟩ => h.run pins s σ H Q I (k _ _ _ .refl hM z)⟩
theorem do_some (ha : EP' X T ex a ra) : OP'' X T ex (some a) (rPart ra) := by
  have h := po_some ha
  exact ⟨fun pins s σ H Q I ⟨δ, M, q, hδ, hM, z, k⟩ => h.run pins s σ H Q I ⟨δ, M, _, hδ, hM, z, fun v H1 d M1 e1 d1 m1 ⟨i, ed, z1⟩ => by subst ed; cases d1; exact ⟨i, rfl, k _ _ _ e1 m1 z1⟩⟩⟩
theorem de_cut {lo hi : Option Expr} {rl rh : DO} (ha : EP' X T ex a ra) (hl : OP'' X T ex lo rl) (hh : OP'' X T ex hi rh) : EP' X T ex (.Subscript a (.Slice lo hi none p2) pos) (rCut ra rl rh) :=
  PEw (pe_slice (SlR.or sl_list (SlR.or sl_tupA sl_str)) ha hl hh) fun σ H Q ⟨δ, M, q, hδ, hM, z, k⟩ => ⟨δ, M, _, hδ, hM, z, fun v1 H1 x M1 e1 d1 m1 z1 => ⟨δ, M1, _, hδ.mono e1, m1, z1, fun l H2 M2 e2 m2 z2 => ⟨δ, M2, _, hδ.mono (e1.trans e2), m2, z2, fun u H3 M3 e3 m3 z3 => by
    have d3 := d1.mono (e2.trans e3)
    have e13 := (e1.trans e2).trans e3
    have lst : ∀ {d : D}, Den X.K H3 d v1 → (∃ xs, lsOf M3 d = some xs ∧ ∀ p, M3 p = none → q (.ref p) (mset M3 p (.lst (cutD xs l u)))) → rSlL X.K v1 l u H3 Q := fun {d} dd ⟨xs, h1, z⟩ => by
      obtain ⟨a, vs, rfl, sq, ll⟩ := lsOf_ok m3 h1 dd
      exact ⟨a, vs, rfl, sq, fun p hp => k _ _ _ _ (e13.trans (Ext.upd_new hp)) (.ref p) (m3.new (o := .lst (cutD xs l u)) hp ⟨_, upd_same, (cut_den ll).mono (Ext.upd_new hp)⟩) (z p (m3.free hp))⟩
    cases d3 with
    | tup sq ll =>
      refine .inr (.inl ⟨_, _, rfl, sq, fun hw => ?_, fun hw p hp => ?_⟩)
      · rename_i xs vs
        have hw' : HT.sIx xs.length 0 l = 0 ∧ HT.sIx xs.length xs.length u = xs.length := by rw [ll.length]; exact hw
        have z3 : q (.tup (cutD xs l u)) M3 := z3
        rw [cut_full hw'] at z3
        exact k _ _ _ _ e13 (.tup sq ll) m3 z3
      · exact k _ _ _ _ (e13.trans (Ext.upd_new hp)) (.tup (SqT.of upd_same) ((cut_den ll).mono (Ext.upd_new hp))) (m3.newT hp) z3
    | str zz => exact .inr (.inr ⟨zz, rfl, z3.1, k _ _ _ _ e13 (.str _) m3 z3.2⟩)
    | ref a => exact .inl (lst (.ref a) z3)
    | rol s ll => exact .inl (lst (.rol s ll) z3)
    | non => exact .inl (lst .non z3)
    | bl b => exact .inl (lst (.bl b) z3)
    | int i => exact .inl (lst (.int i) z3)
    | ty n => exact .inl (lst (.ty n) z3)⟩⟩⟩
end

/-! ### methods -/
abbrev D1L := D → List D → Mm → Kd → Prop
def rMt (r : D1L) (T : String) (o : DE) (a : DA) : DE := fun ex δ M q => o ex δ M fun x M1 => tyOf M1 x = some T ∧ a ex δ M1 fun xs M2 => r x xs M2 q
def rMDL (W : Wd) (r : D1L) : V → List V → Hp → VK → Prop := fun x xs H Q => ∃ d ds M q, Den W.K H d x ∧ DenL W.K H ds xs ∧ Mr W H M ∧ r d ds M q ∧ ∀ v H' d' M', Ext W.K H H' → Den W.K H' d' v → Mr W H' M' → q d' M' → Q v H'
section
variable {X : Cx} {T : List Addr} {ex : EK} {o e : Expr} {es : List Expr} {ro : DE} {rs : DA} {name : Str} {apos cpos : Pos} {Tn id : String} {r : D1L}
abbrev ML' (X : Cx) (T : List Addr) (id : String) (r : D1L) : Prop := MtR X id (rMDL (wd X T) r)
theorem ty_tyV {W : Wd} {H : Hp} {M : Mm} {d : D} {v : V} {t : String} (hM : Mr W H M) (h : tyOf M d = some t) (hd : Den W.K H d v) (ht : t = "list" ∨ t = "str" ∨ t = "int") : tyV W.K t v H := by
  cases hd with
  | str x => cases h; rfl
  | int x => cases h; rfl
  | ref a =>
    obtain ⟨rfl, xs, e⟩ := tyOf_ref h
    obtain ⟨vs, e1, _⟩ := hM.obj _ _ e
    exact .inl ⟨rfl, vs, SqL.of e1⟩
  | rol s l => cases h; exact .inl ⟨rfl, _, s.sq⟩
  | non => cases h; simp at ht
  | bl b => cases h; simp at ht
  | tup s l => cases h; simp at ht
  | ty n => cases h
theorem de_mt0 (pa : PlainAttrs Tn) (slot : Slot Tn name id) (hty : typeOf (.builtin id) = pure (.type "method_descriptor")) (ht : Tn = "list" ∨ Tn = "str" ∨ Tn = "int") (hm : ML' X T id r) (ho : EP' X T ex o ro)
    (hbase : attributeBase o name X.env (eval o X.env) = eval o X.env) (hline : (apos.endLine == cpos.line) = true) : EP' X T ex (.Call (.Attribute o name apos) [] [] cpos) (rMt r Tn ro rNil) :=
  PEw (pe_bm0 pa slot hty hm ho hbase hline) fun σ H Q ⟨δ, M, q, hδ, hM, z, k⟩ => ⟨δ, M, _, hδ, hM, z, fun v H1 d M1 e1 d1 m1 ⟨ty, z1⟩ => ⟨ty_tyV m1 ty d1 ht, d, [], M1, q, d1, .nil, m1, z1, fun v H' d' M' e2 => k v H' d' M' (e1.trans e2)⟩⟩
theorem de_mt (pa : PlainAttrs Tn) (slot : Slot Tn name id) (hty : typeOf (.builtin id) = pure (.type "method_descriptor")) (ht : Tn = "list" ∨ Tn = "str" ∨ Tn = "int") (hm : ML' X T id r) (ho : EP' X T ex o ro) (ha : AP' X T ex (e :: es) rs)
    (hbase : attributeBase o name X.env (eval o X.env) = eval o X.env)
    (hfew : ((backTo cpos (starEach (e :: es) X.env)).all (fun x => !x.1) && (backToKw cpos (keywordEach [] X.env)).all (fun x => x.1.isSome)
      && decide ((e :: es).length + ([] : List Keyword).length + (if ([] : List Keyword).isEmpty then 0 else 1) < 30)) = true)
    (hline : (apos.endLine == cpos.line) = true) (hs : starEach (e :: es) X.env = (false, eval e X.env) :: starEach es X.env) (hplain : (backTo cpos (starEach es X.env)).any (·.1) = false) :
    EP' X T ex (.Call (.Attribute o name apos) (e :: es) [] cpos) (rMt r Tn ro rs) :=
  PEw (pe_bm pa slot hty hm ho ha hbase hfew hline hs hplain) fun σ H Q ⟨δ, M, q, hδ, hM, z, k⟩ => ⟨δ, M, _, hδ, hM, z, fun v H1 d M1 e1 d1 m1 ⟨ty, z1⟩ => ⟨ty_tyV m1 ty d1 ht, δ, M1, _, hδ.mono e1, m1, z1, fun vs H2 ds M2 e2 d2 m2 z2 =>
    ⟨d, ds, M2, q, d1.mono e2, d2, m2, z2, fun v H' d' M' e3 => k v H' d' M' ((e1.trans e2).trans e3)⟩⟩⟩
def mAppend : D1L := fun x xs M q => ∃ a ys y, x = .ref a ∧ xs = [y] ∧ M a = some (.lst ys) ∧ ys.length < sizeLine ∧ q .non (mset M a (.lst (ys ++ [y])))
def mPop : D1L := fun x xs M q => ∃ a ys y, x = .ref a ∧ xs = [] ∧ M a = some (.lst ys) ∧ ys[ys.length - 1]? = some y ∧ q y (mset M a (.lst ys.dropLast))
def mPopAt : D1L := fun x xs M q => ∃ a ys i k y, x = .ref a ∧ xs = [.int i] ∧ M a = some (.lst ys) ∧ -(2 ^ 63) ≤ i ∧ i < 2 ^ 63 ∧ seqIndex? i ys.length = some k ∧ ys[k]? = some y ∧ q y (mset M a (.lst (ys.eraseIdx k)))
def mReverse : D1L := fun x xs M q => ∃ a ys, x = .ref a ∧ xs = [] ∧ M a = some (.lst ys) ∧ q .non (mset M a (.lst ys.reverse))
def mExtend : D1L := fun x xs M q => ∃ a b ys zs, x = .ref a ∧ xs = [.ref b] ∧ M a = some (.lst ys) ∧ M b = some (.lst zs) ∧ ys.length + zs.length ≤ sizeLine ∧ q .non (mset M a (.lst (ys ++ zs)))
theorem mut_lst {H : Hp} {a : Addr} {vs : List V} (h : H a = some (.lst vs)) : Mut (H a) := by rw [h]; trivial
theorem ml_append : ML' X T "list.append" mAppend := by
  intro pins s σ H x xs v us Q I rx r ⟨d, ds, M, q, hd, hds, hM, ⟨a, ys, y, ed, eds, ea, hl, z⟩, k⟩
  subst ed eds
  cases hd
  cases hds with
  | cons hy t =>
    cases t
    obtain ⟨vs, e1, l⟩ := hM.obj _ _ ea
    exact mt_append pins s σ H _ _ v us Q I rx r ⟨a, vs, _, rfl, rfl, e1, by rw [← l.length]; exact hl, k _ _ _ _ (Ext.upd_mut (mut_lst e1)) .non
      (hM.put (u := .lst (vs ++ [_])) (o := .lst (ys ++ [y])) (mut_lst e1) ⟨_, upd_same, (l.append (.cons hy .nil)).mono (Ext.upd_mut (mut_lst e1))⟩) z⟩
theorem ml_pop : ML' X T "list.pop" mPop := by
  intro pins s σ H x xs v us Q I rx r ⟨d, ds, M, q, hd, hds, hM, ⟨a, ys, y, ed, eds, ea, hl, z⟩, k⟩
  subst ed eds
  cases hd
  cases hds
  obtain ⟨vs, e1, l⟩ := hM.obj _ _ ea
  obtain ⟨w, h1, h2⟩ := l.get hl
  exact mt_pop pins s σ H _ _ v us Q I rx r ⟨a, vs, w, rfl, rfl, e1, by rw [← l.length]; exact h1, k _ _ _ _ (Ext.upd_mut (mut_lst e1)) (h2.mono (Ext.upd_mut (mut_lst e1)))
    (hM.put (u := .lst vs.dropLast) (o := .lst ys.dropLast) (mut_lst e1) ⟨_, upd_same, l.dropLast.mono (Ext.upd_mut (mut_lst e1))⟩) z⟩
theorem ml_popAt : ML' X T "list.pop" mPopAt := by
  intro pins s σ H x xs v us Q I rx r ⟨d, ds, M, q, hd, hds, hM, ⟨a, ys, i, j, y, ed, eds, ea, h1, h2, h3, h4, z⟩, k⟩
  subst ed eds
  cases hd
  cases hds with
  | cons hi t =>
    cases hi; cases t
    obtain ⟨vs, e1, l⟩ := hM.obj _ _ ea
    obtain ⟨w, h5, h6⟩ := l.get h4
    exact mt_popAt pins s σ H _ _ v us Q I rx r ⟨a, vs, i, j, w, rfl, rfl, e1, h1, h2, by rw [← l.length]; exact h3, h5, k _ _ _ _ (Ext.upd_mut (mut_lst e1)) (h6.mono (Ext.upd_mut (mut_lst e1)))
      (hM.put (u := .lst (vs.eraseIdx j)) (o := .lst (ys.eraseIdx j)) (mut_lst e1) ⟨_, upd_same, (l.eraseIdx j).mono (Ext.upd_mut (mut_lst e1))⟩) z⟩
theorem ml_reverse : ML' X T "list.reverse" mReverse := by
  intro pins s σ H x xs v us Q I rx r ⟨d, ds, M, q, hd, hds, hM, ⟨a, ys, ed, eds, ea, z⟩, k⟩
  subst ed eds
  cases hd
  cases hds
  obtain ⟨vs, e1, l⟩ := hM.obj _ _ ea
  exact mt_reverse pins s σ H _ _ v us Q I rx r ⟨a, vs, rfl, rfl, e1, k _ _ _ _ (Ext.upd_mut (mut_lst e1)) .non
    (hM.put (u := .lst vs.reverse) (o := .lst ys.reverse) (mut_lst e1) ⟨_, upd_same, l.reverse.mono (Ext.upd_mut (mut_lst e1))⟩) z⟩
theorem ml_extend : ML' X T "list.extend" mExtend := by
  intro pins s σ H x xs v us Q I rx r ⟨d, ds, M, q, hd, hds, hM, ⟨a, b, ys, zs, ed, eds, ea, eb, hl, z⟩, k⟩
  subst ed eds
  cases hd
  cases hds with
  | cons hi t =>
    cases hi; cases t
    obtain ⟨vs, e1, l⟩ := hM.obj _ _ ea
    obtain ⟨ws, e2, l2⟩ := hM.obj _ _ eb
    exact mt_extend pins s σ H _ _ v us Q I rx r ⟨a, b, vs, ws, rfl, rfl, e1, e2, by rw [← l.length, ← l2.length]; exact hl, k _ _ _ _ (Ext.upd_mut (mut_lst e1)) .non
      (hM.put (u := .lst (vs ++ ws)) (o := .lst (ys ++ zs)) (mut_lst e1) ⟨_, upd_same, (l.append l2).mono (Ext.upd_mut (mut_lst e1))⟩) z⟩
/-! ### stores -/
/-- l[i] = d -/
def sLst : D3 := fun o i d M q => ∃ a xs k j, o = .ref a ∧ i = .int k ∧ M a = some (.lst xs) ∧ ixN xs.length k = some j ∧ q (mset M a (.lst (xs.set j d)))
theorem st_lst : StP' X T sLst := by
  have h : PSet X rSetL := set_list
  intro pins s σ H o i v uo ui uv Q I ro ri rv ⟨x, y, d, M, q, hx, hy, hd, hM, ⟨a, xs, k, j, ex, ey, ea, hj, z⟩, kk⟩
  subst ex ey
  cases hx; cases hy
  obtain ⟨vs, e1, l⟩ := hM.obj _ _ ea
  exact h pins s σ H _ _ v uo ui uv Q I ro ri rv ⟨a, vs, k, j, rfl, rfl, e1, by rw [← l.length]; exact hj, kk _ _ (Ext.upd_mut (mut_lst e1))
    (hM.put (u := .lst (vs.set j v)) (o := .lst (xs.set j d)) (mut_lst e1) ⟨_, upd_same, (l.set j hd).mono (Ext.upd_mut (mut_lst e1))⟩) z⟩
end
end Lk
set_option Elab.async false
set_option linter.all false
set_option maxRecDepth 100000
set_option maxHeartbeats 1000000
/-! Lark, part 10: dicts, their keys ints and texts or tuples. -/
namespace Lk
open PySem PySem.Spec PyProof.Rows L2

/-! ### data -/
def isTupD : D → Bool
  | .tup _ => true
  | _ => false
def isSimD : D → Bool
  | .int _ => true
  | .str _ => true
  | _ => false
def sameK (d e : D) : Bool := match keyOf d, keyOf e with
  | some a, some b => decide (a = b)
  | _, _ => false
def dPut (kvs : List (D × D)) (d v : D) : List (D × D) := if kvs.any (fun p => sameK p.1 d) = true then kvs.map (fun p => if sameK p.1 d = true then (p.1, v) else p) else kvs ++ [(d, v)]
def dGet (kvs : List (D × D)) (d : D) : Option D := (kvs.find? fun p => sameK p.1 d).map (·.2)
/-- a key that a dict of tuples (of ints, texts) takes -/
def KeyOk (kvs : List (D × D)) (d : D) : Prop := (∃ k, keyOf d = some k ∧ k.depth ≤ 8) ∧ ((isTupD d = true ∧ ∀ p ∈ kvs, isTupD p.1 = true) ∨ (isSimD d = true ∧ ∀ p ∈ kvs, isSimD p.1 = true))
theorem sameK_of {d e : D} {k l : NestedKey} (h : keyOf d = some k) (h' : keyOf e = some l) : sameK d e = decide (k = l) := by unfold sameK; rw [h, h']

section
variable {X : Cx} {T : List Addr} {pins : List (Addr × Obj)} {σ : L2.St} {H : Hp} {s : Shared}
mutual
theorem Den.nested (I : Inv X pins σ H s) : ∀ {d : D} {v : V}, Den X.K H d v → ∀ {k : NestedKey} {u : Value}, keyOf d = some k → RelV v u → NestedIs s.heap k u
  | _, _, .non, _, _, h, r => by cases h; cases r; exact .none
  | _, _, .bl b, _, _, h, r => by cases h
  | _, _, .int i, _, _, h, r => by cases h; obtain ⟨t, rfl⟩ := r; exact .int i t
  | _, _, .str x, _, _, h, r => by cases h; obtain ⟨t, rfl⟩ := r; exact .text x t
  | _, _, .ty n, _, _, h, r => by cases h
  | _, _, .ref a, _, _, h, r => by cases h
  | _, _, .rol s l, _, _, h, r => by cases h
  | _, _, @Den.tup _ _ a xs vs sq l, k, u, h, r => by
    have h' : (match keysOf xs with | some ks => some (NestedKey.tup ks) | none => none) = some k := h
    cases r
    obtain ⟨its, rv, ⟨o, e, hc, n, hd⟩, _⟩ := I.tuple sq
    cases q : keysOf xs with
    | none => rw [q] at h'; cases h'
    | some ks =>
      rw [q] at h'
      cases h'
      exact .tup e hc hd (by simpa using DenL.nested I l q rv)
theorem DenL.nested (I : Inv X pins σ H s) : ∀ {ds : List D} {vs : List V}, DenL X.K H ds vs → ∀ {ks : List NestedKey} {us : List Value}, keysOf ds = some ks → Vals vs us → NestedAll s.heap ks us
  | _, _, .nil, _, _, h, .nil => by cases h; exact .nil
  | _, _, @DenL.cons _ _ d v ds vs a t, ks, _, h, .cons r rs => by
    have h' : (match keyOf d, keysOf ds with | some k, some ks => some (k :: ks) | _, _ => none) = some ks := h
    cases q : keyOf d with
    | none => rw [q] at h'; cases h'
    | some k =>
      cases q2 : keysOf ds with
      | none => rw [q, q2] at h'; cases h'
      | some kr =>
        rw [q, q2] at h'
        cases h'
        exact .cons (Den.nested I a q r) (DenL.nested I t q2 rs)
end
theorem den_tup_ref {K : PySem.W.Frag} {d : D} {v : V} (h : Den K H d v) (ht : isTupD d = true) : ∃ a, v = .ref a := by
  cases h with
  | tup s l => exact ⟨_, rfl⟩
  | _ => cases ht
/-! ### the entries -/
theorem ent_any {kvs : List (D × D)} {xs : List (NestedKey × Addr × Value)} {d : D} {k : NestedKey} {K : PySem.W.Frag} (h : Paired (EntOk K H) kvs xs) (hk : keyOf d = some k) : (kvs.any fun p => sameK p.1 d) = (atKey xs k).isSome := by
  induction h with
  | nil => rfl
  | @cons p x ps xs r t ih =>
    rw [List.any_cons, sameK_of r.2.1 hk, ih]
    unfold atKey
    rw [List.find?_cons]
    by_cases e : x.1 = k
    · simp [e]
    · simp [e]
theorem ent_put {kvs : List (D × D)} {xs : List (NestedKey × Addr × Value)} {d v : D} {k : NestedKey} {a : Addr} {w : V} {u : Value} {K : PySem.W.Frag} (h : Paired (EntOk K H) kvs xs) (hk : keyOf d = some k) (h8 : k.depth ≤ 8) (hd : Den K H d (.ref a)) (hv : Den K H v w) (ru : RelV w u) :
    Paired (EntOk K H) (dPut kvs d v) (storedH xs k a u) := by
  unfold dPut storedH
  rw [ent_any h hk]
  split
  · have all : ∀ {ps : List (D × D)} {ys : List (NestedKey × Addr × Value)}, Paired (EntOk K H) ps ys → Paired (EntOk K H) (ps.map fun p => if sameK p.1 d = true then (p.1, v) else p) (ys.map (putAt k u)) := by
      intro ps ys hp
      induction hp with
      | nil => exact .nil
      | @cons p x ps ys r t ih =>
        refine .cons ?_ ih
        unfold putAt
        show EntOk K H (if sameK p.1 d = true then (p.1, v) else p) (if x.1 = k then (x.1, x.2.1, u) else x)
        rw [sameK_of r.2.1 hk]
        by_cases e : x.1 = k
        · rw [if_pos (by simpa using e), if_pos e]
          exact ⟨r.1, r.2.1, r.2.2.1, w, ru, hv⟩
        · rw [if_neg (by simpa using e), if_neg e]
          exact r
    exact all h
  · have app : ∀ {ps : List (D × D)} {ys : List (NestedKey × Addr × Value)}, Paired (EntOk K H) ps ys → Paired (EntOk K H) (ps ++ [(d, v)]) (ys ++ [(k, a, u)]) := by
      intro ps ys hp
      induction hp with
      | nil => exact .cons ⟨hd, hk, h8, w, ru, hv⟩ .nil
      | cons r t ih => exact .cons r ih
    exact app h
theorem ent_get {kvs : List (D × D)} {xs : List (NestedKey × Addr × Value)} {d v : D} {k : NestedKey} {K : PySem.W.Frag} (h : Paired (EntOk K H) kvs xs) (hk : keyOf d = some k) (hg : dGet kvs d = some v) : ∃ b u w, atKey xs k = some (b, u) ∧ RelV w u ∧ Den K H v w := by
  induction h with
  | nil => cases hg
  | @cons p x ps xs r t ih =>
    unfold dGet at hg
    rw [List.find?_cons, sameK_of r.2.1 hk] at hg
    unfold atKey
    rw [List.find?_cons]
    by_cases e : x.1 = k
    · simp only [e, decide_true] at hg ⊢
      obtain ⟨w, r1, r2⟩ := r.2.2.2
      cases hg
      exact ⟨_, _, w, rfl, r1, r2⟩
    · simp only [e, decide_false] at hg ⊢
      exact ih hg
theorem length_dPut {kvs : List (D × D)} {d v : D} : (dPut kvs d v).length ≤ kvs.length + 1 := by
  unfold dPut
  split
  · rw [List.length_map]; omega
  · rw [List.length_append]; simp
/-- the raw form in the heap -/
theorem dct_keyed (I : Inv X pins σ H s) {a : Addr} {kvs : List (D × D)} {xs : List (NestedKey × Addr × Value)} (h : H a = some (.ext (dctF X.prog X.w a xs))) (hn : (xs.map (·.1)).Nodup) (p : Paired (EntOk X.K H) kvs xs) : s.heap.DictOfH (nestedKind X.prog X.w) a xs := by
  obtain ⟨⟨o, es, ep, e, ex, hd, he⟩, _, _⟩ := I.hok a _ h
  refine ⟨o, es, ep, e, ex, hd, he, ?_, hn⟩
  have all : ∀ {ps : List (D × D)} {ys : List (NestedKey × Addr × Value)}, Paired (EntOk X.K H) ps ys → ∀ x ∈ ys, (nestedKind X.prog X.w).is s.heap x.1 x.2.1 := by
    intro ps ys hp
    induction hp with
    | nil => intro x hx; cases hx
    | @cons q y ps ys r t ih =>
      intro x hx
      rcases List.mem_cons.mp hx with rfl | hx
      · exact ⟨Den.nested I r.1 r.2.1 rfl, r.2.2.1⟩
      · exact ih x hx
  exact all p
theorem dct_obj {P : Program} {w : World} {H' : Hp} {h : Heap} {a : Addr} {xs : List (NestedKey × Addr × Value)} (x : h.DictOfH (nestedKind P w) a xs) : ObjOk P w H' h a (.ext (dctF P w a xs)) := by
  obtain ⟨o, es, ep, e, ex, hd, he, _, _⟩ := x
  refine ⟨⟨o, es, ep, e, ex, hd, he⟩, ⟨o, e⟩, fun h1 h2 ⟨o1, es1, ep1, q1, q2, q3, q4⟩ k => ⟨o1, es1, ep1, k _ q1, q2, q3, q4⟩⟩
theorem ent_len {kvs : List (D × D)} {xs : List (NestedKey × Addr × Value)} {K : PySem.W.Frag} (h : Paired (EntOk K H) kvs xs) : kvs.length = xs.length := Paired.length h
theorem DctOk.noSys {a : Addr} {kvs : List (D × D)} (I : Inv X pins σ H s) (h : DctOk X.prog X.w X.K H a kvs) : (a == sysModules) = false := by
  rcases h with ⟨vs, e, _⟩ | ⟨z, _⟩
  · exact (dk_of I.hok e).2.1
  · exact z
/-- a tuple stored under -/
theorem dct_put (I : Inv X pins σ H s) {A : Around} {E : Value → Shared → Prop} {Q : Unit → Shared → Prop} {a b : Addr} {kvs : List (D × D)} {d v : D} {k : NestedKey} {w : V} {u : Value} (hu : A.units + 9 < cLine) (h : DctOk X.prog X.w X.K H a kvs) (ht : ∀ p ∈ kvs, isTupD p.1 = true)
    (hk : keyOf d = some k) (h8 : k.depth ≤ 8) (hd : Den X.K H d (.ref b)) (hv : Den X.K H v w) (ru : RelV w u) (hl : kvs.length < sizeLine)
    (hQ : ∀ (xs : List (NestedKey × Addr × Value)) s', Inv X pins σ (upd H a (.ext (dctF X.prog X.w a xs))) s' → Mut (H a) → DctOk X.prog X.w X.K (upd H a (.ext (dctF X.prog X.w a xs))) a (dPut kvs d v) → Q () s') :
    wpAny (model X.prog X.w) A (setItem (.ref a) (.ref b) u) Q E s := by
  have sys := h.noSys I
  have key : (nestedKind X.prog X.w).is s.heap k b := ⟨Den.nested I hd hk rfl, h8⟩
  have main : ∀ xs : List (NestedKey × Addr × Value), Mut (H a) → s.heap.DictOfH (nestedKind X.prog X.w) a xs → Paired (EntOk X.K H) kvs xs → wpAny (model X.prog X.w) A (setItem (.ref a) (.ref b) u) Q E s := fun xs mu dd p => by
    refine wpAny_setItem_heap (hsz := by rw [← ent_len p]; omega) (show A.in1.units + 8 < cLine by show A.units + 1 + 8 < _; omega) key dd fun h' dd' hs => ?_
    have he : ∃ q, h'.get? a = some q := let ⟨q, _, _, hq, _⟩ := dd'; ⟨q, hq⟩
    refine hQ (storedH xs k b u) _ (d_write I mu hs he (dct_obj dd')) mu (.inr ⟨sys, by have := length_dPut (kvs := kvs) (d := d) (v := v); omega, _, upd_same, ?_, ?_⟩)
    · obtain ⟨_, _, _, _, _, _, _, _, n⟩ := dd'; exact n
    · exact Paired.mapP (ent_put p hk h8 hd hv ru) fun _ _ r => ⟨r.1.mono (Ext.upd_mut mu), r.2.1, r.2.2.1, let ⟨v, r1, r2⟩ := r.2.2.2; ⟨v, r1, r2.mono (Ext.upd_mut mu)⟩⟩
  rcases h with ⟨vs, e, p⟩ | ⟨_, _, xs, e, n, p⟩
  · have hnil : kvs = [] ∧ vs = [] := by
      cases p with
      | nil => exact ⟨rfl, rfl⟩
      | @cons q y ps ys r t =>
        have h1 := ht q List.mem_cons_self
        obtain ⟨c, hc⟩ := den_tup_ref r.1 h1
        obtain ⟨yk, yv⟩ := y
        cases yk <;> cases hc
    obtain ⟨rfl, rfl⟩ := hnil
    obtain ⟨_, _, ws, kv, o, es, ep, e1, ex, hd', _, hp, _⟩ := (show ObjOk X.prog X.w H s.heap a (.dK []) from I.hok a _ e)
    cases kv
    have hes : es.toList = [] := by cases h9 : es.toList with
      | nil => rfl
      | cons z zs => rw [h9] at hp; cases hp
    exact main [] (by rw [e]; trivial) ⟨o, es, ep, e1, ex, hd', by rw [hes]; rfl, by simp, List.nodup_nil⟩ .nil
  · exact main xs (by rw [e]; trivial) (dct_keyed I e n p) p
end

def nestOf : L2.Key → NestedKey
  | .inl i => .num i
  | .inr x => .text x
theorem nestOf_inj {a b : L2.Key} (h : nestOf a = nestOf b) : a = b := by
  cases a <;> cases b <;> simp [nestOf] at h <;> rw [h]
theorem den_sim {K : PySem.W.Frag} {H : Hp} {d : D} {v : V} (h : Den K H d v) (hs : isSimD d = true) : ∃ k : L2.Key, v = kV k ∧ keyOf d = some (nestOf k) := by
  cases h with
  | int i => exact ⟨.inl i, rfl, rfl⟩
  | str x => exact ⟨.inr x, rfl, rfl⟩
  | _ => cases hs
theorem den_kV {K : PySem.W.Frag} {H : Hp} {d : D} {k : L2.Key} (h : Den K H d (kV k)) : isSimD d = true ∧ keyOf d = some (nestOf k) := by
  cases k with
  | inl i => cases h; exact ⟨rfl, rfl⟩
  | inr x => cases h; exact ⟨rfl, rfl⟩
abbrev SimP (K : PySem.W.Frag) (H : Hp) : List (D × D) → List (L2.Key × V) → Prop := Paired (fun (p : D × D) (q : L2.Key × V) => Den K H p.1 (kV q.1) ∧ Den K H p.2 q.2)
section
variable {K : PySem.W.Frag} {H : Hp} {kvs : List (D × D)} {vs : List (L2.Key × V)} {d v : D} {k : L2.Key} {w : V}
theorem sameK_sim {e : D} {l : L2.Key} (h : keyOf d = some (nestOf k)) (h' : keyOf e = some (nestOf l)) : sameK d e = decide (k = l) := by
  rw [sameK_of h h']
  by_cases e : k = l
  · subst e; simp
  · rw [decide_eq_false e, decide_eq_false fun z => e (nestOf_inj z)]
theorem sim_put (h : SimP K H kvs vs) (hk : keyOf d = some (nestOf k)) (hd : Den K H d (kV k)) (hv : Den K H v w) : SimP K H (dPut kvs d v) (putK vs k w) := by
  have any : ∀ {ps : List (D × D)} {ys : List (L2.Key × V)}, SimP K H ps ys → (ps.any fun p => sameK p.1 d) = ys.any fun kv => decide (kv.1 = k) := by
    intro ps ys hp
    induction hp with
    | nil => rfl
    | @cons p y ps ys r t ih => rw [List.any_cons, List.any_cons, ih, sameK_sim (den_kV r.1).2 hk]
  unfold dPut putK
  rw [any h]
  split
  · have all : ∀ {ps : List (D × D)} {ys : List (L2.Key × V)}, SimP K H ps ys → SimP K H (ps.map fun p => if sameK p.1 d = true then (p.1, v) else p) (ys.map fun kv => if kv.1 = k then (kv.1, w) else kv) := by
      intro ps ys hp
      induction hp with
      | nil => exact .nil
      | @cons p x ps ys r t ih =>
        refine .cons ?_ ih
        show Den K H (if sameK p.1 d = true then (p.1, v) else p).1 (kV (if x.1 = k then (x.1, w) else x).1) ∧ Den K H (if sameK p.1 d = true then (p.1, v) else p).2 (if x.1 = k then (x.1, w) else x).2
        rw [sameK_sim (den_kV r.1).2 hk]
        by_cases e : x.1 = k
        · rw [if_pos (by simpa using e), if_pos e]; exact ⟨r.1, hv⟩
        · rw [if_neg (by simpa using e), if_neg e]; exact r
    exact all h
  · have app : ∀ {ps : List (D × D)} {ys : List (L2.Key × V)}, SimP K H ps ys → SimP K H (ps ++ [(d, v)]) (ys ++ [(k, w)]) := by
      intro ps ys hp
      induction hp with
      | nil => exact .cons ⟨hd, hv⟩ .nil
      | cons r t ih => exact .cons r ih
    exact app h
theorem sim_get (h : SimP K H kvs vs) (hk : keyOf d = some (nestOf k)) : (∀ x, dGet kvs d = some x → ∃ y, valV vs k = some y ∧ Den K H x y) ∧ (dGet kvs d = none → valV vs k = none) := by
  induction h with
  | nil =>
    refine ⟨fun x z => ?_, fun _ => rfl⟩
    cases z
  | @cons p x ps xs r t ih =>
    unfold dGet
    rw [List.find?_cons, sameK_sim (den_kV r.1).2 hk]
    by_cases e : x.1 = k
    · rw [decide_eq_true e, valV_pos e]
      exact ⟨fun y z => by cases z; exact ⟨_, rfl, r.2⟩, fun z => by cases z⟩
    · rw [decide_eq_false e, valV_neg e]
      exact ih
end
/-- o[i] = d: a list's place, a dict's key -/
def sSub : D3 := fun o i d M q => match o with
  | .ref a => match M a with
    | some (.lst xs) => ∃ k j, i = .int k ∧ ixN xs.length k = some j ∧ q (mset M a (.lst (xs.set j d)))
    | some (.dct kvs) => KeyOk kvs i ∧ kvs.length < sizeLine ∧ q (mset M a (.dct (dPut kvs i d)))
    | _ => False
  | _ => False
section
variable {X : Cx} {T : List Addr}
theorem st_sub (hu : X.A.units + 9 < cLine) : StP' X T sSub := by
  intro pins s σ H o i v uo ui uv Q I ro ri rv ⟨x, y, d, M, q, hx, hy, hd, hM, z, kk⟩
  cases hx with
  | ref a =>
    have z : (match M a with
      | some (.lst xs) => ∃ k j, y = .int k ∧ ixN xs.length k = some j ∧ q (mset M a (.lst (xs.set j d)))
      | some (.dct kvs) => KeyOk kvs y ∧ kvs.length < sizeLine ∧ q (mset M a (.dct (dPut kvs y d)))
      | _ => False) := z
    split at z
    · rename_i xs e
      obtain ⟨k, j, rfl, hj, z⟩ := z
      exact st_lst pins s σ H _ i v uo ui uv Q I ro ri rv ⟨.ref a, .int k, d, M, q, .ref a, hy, hd, hM, ⟨a, xs, k, j, rfl, rfl, e, hj, z⟩, kk⟩
    · rename_i kvs e
      obtain ⟨⟨⟨nk, hk, h8⟩, hkind⟩, hl, z⟩ := z
      cases ro
      have dk := hM.obj _ _ e
      rcases hkind with ⟨ht, hall⟩ | ⟨hs, hall⟩
      · obtain ⟨b, rfl⟩ := den_tup_ref hy ht
        cases ri
        refine dct_put I hu dk hall hk h8 hy hd rv hl fun xs s' I' mu dk' => ⟨_, I', kk _ _ (Ext.upd_mut mu) (hM.put (o := .dct (dPut kvs y d)) mu dk') z⟩
      · obtain ⟨k, rfl, hk2⟩ := den_sim hy hs
        rw [hk] at hk2
        cases hk2
        rcases dk with ⟨vs, e1, p⟩ | ⟨sys, _, xs, e1, n, p⟩
        · have l : kvs.length = vs.length := Paired.length p
          have mu : Mut (H a) := by rw [e1]; trivial
          refine d_setItem (a := a) (by omega) I (.k e1 (by rw [← l]; exact hl)) ri rv fun s' I' => ⟨_, I', kk _ _ (Ext.upd_mut mu) (hM.put (o := .dct (dPut kvs y d)) mu (.inl ⟨_, upd_same, ?_⟩)) z⟩
          exact Paired.mapP (sim_put p hk hy hd) fun _ _ r => ⟨r.1.mono (Ext.upd_mut mu), r.2.mono (Ext.upd_mut mu)⟩
        · -- an emptied dict of tuples
          have hnil : kvs = [] ∧ xs = [] := by
            cases p with
            | nil => exact ⟨rfl, rfl⟩
            | @cons q1 y1 ps ys r t =>
              have h1 := hall q1 List.mem_cons_self
              obtain ⟨k1, e2, _⟩ := den_sim r.1 h1
              cases k1 <;> cases e2
          obtain ⟨rfl, rfl⟩ := hnil
          obtain ⟨⟨ob, es, ep, e2, ex, hd2, he⟩, _, _⟩ := I.hok a _ e1
          have mu : Mut (H a) := by rw [e1]; trivial
          have dd : s.heap.DictOf (mixKind X.prog X.w) a [] := by
            have hes : es = #[] := by
              have := congrArg List.length he
              simp at this
              exact this
            subst hes
            exact ⟨ob, #[], ep, e2, ex, hd2, fun _ h => by simp at h, .nil, List.nodup_nil⟩
          refine wpAny_setItem_pairs (hsz := Nat.zero_le _) (kV_is ri) dd fun h' dd' hs' => ?_
          have he' : ∃ q, h'.get? a = some q := let ⟨q, _, _, hq, _⟩ := dd'; ⟨q, hq⟩
          refine ⟨upd H a (.dK [(k, v)]), d_write I mu hs' he' (dk_new (by show (1 : Nat) ≤ sizeLine; rw [sizeLine_eq]; decide) sys (.cons ⟨rfl, rv⟩ .nil) dd'), kk _ _ (Ext.upd_mut mu) (hM.put (o := .dct (dPut [] y d)) mu (.inl ⟨_, upd_same, ?_⟩)) z⟩
          exact .cons ⟨hy.mono (Ext.upd_mut mu), hd.mono (Ext.upd_mut mu)⟩ .nil
    · exact z.elim
  | _ => exact z.elim
/-! ### new dicts -/
def rDct0 : DE := fun _ _ M q => ∀ p, M p = none → q (.ref p) (mset M p (.dct []))
theorem de_dct0 {ex : EK} {pos : Pos} : EP' X T ex (.Dict [] [] pos) rDct0 :=
  PEw pe_dnewK fun σ H Q ⟨δ, M, q, hδ, hM, z, k⟩ p hp => k _ _ _ _ (Ext.upd_new hp) (.ref p) (hM.new (o := .dct []) hp (.inl ⟨[], upd_same, .nil⟩)) (z p (hM.free hp))
/-- {k: v}, k a tuple, an int or a text -/
def rDct1 (a b : DE) : DE := fun ex δ M q => ∀ p, M p = none → a ex δ (mset M p (.dct [])) fun d M1 => b ex δ M1 fun v M2 => (isTupD d = true ∧ ∃ k, keyOf d = some k ∧ k.depth ≤ 8) ∧ M2 p = some (.dct []) ∧ q (.ref p) (mset M2 p (.dct [(d, v)]))
theorem de_dct1 {ex : EK} {a b : Expr} {ra rb : DE} {pos : Pos} (hu : X.A.units + 9 < cLine) (ha : EP' X T ex a ra) (hb : EP' X T ex b rb) : EP' X T ex (.Dict [some a] [b] pos) (rDct1 ra rb) := by
  refine ⟨fun pins s σ H Q I ⟨δ, M, q, hδ, hM, z, k⟩ => ?_⟩
  have hn := I.hok.fresh (Nat.le_refl s.heap.objs.size)
  have I1 := I.laid (a := s.heap.objs.size) (o := .dK []) (h' := s.heap.push { cls := .type "dict", data := .dict #[] }) (t' := s.toks) (fun _ _ q => Heap.get?_push_of_some _ q) (Nat.le_refl _) (dk_empty s.heap I.big)
  have e0 : Ext X.K H (upd H s.heap.objs.size (.dK [])) := Ext.upd_new hn
  have m0 : Mr (wd X T) (upd H s.heap.objs.size (.dK [])) (mset M s.heap.objs.size (.dct [])) := hM.new (o := .dct []) hn (.inl ⟨[], upd_same, .nil⟩)
  refine wpAny_Dict_any (by rfl) (by rfl) (by simp) (by show (1 : Nat) ≤ 15; decide) ?_
  refine pairTrees_cons_walk (thn (ha.run pins _ σ _ _ I1 ⟨δ, _, _, hδ.mono e0, m0, z _ (hM.free hn), fun v H1 d M1 e1 d1 m1 z1 => (⟨d, M1, e1, d1, m1, z1⟩ : ∃ d M1, Ext X.K (upd H s.heap.objs.size (.dK [])) H1 ∧ Den X.K H1 d v ∧ Mr (wd X T) H1 M1 ∧ rb ex δ M1 fun v M2 => (isTupD d = true ∧ ∃ k, keyOf d = some k ∧ k.depth ≤ 8) ∧ M2 s.heap.objs.size = some (.dct []) ∧ q (.ref s.heap.objs.size) (mset M2 s.heap.objs.size (.dct [(d, v)])))⟩) fun u s1 ⟨w, H1, J1, r1, d, M1, e1, d1, m1, z1⟩ => ?_)
  refine thn (hb.run pins s1 σ H1 (fun v2 H2 => ∃ d2 M2, Ext X.K H1 H2 ∧ Den X.K H2 d2 v2 ∧ Mr (wd X T) H2 M2 ∧ (isTupD d = true ∧ ∃ k, keyOf d = some k ∧ k.depth ≤ 8) ∧ M2 s.heap.objs.size = some (.dct []) ∧ q (.ref s.heap.objs.size) (mset M2 s.heap.objs.size (.dct [(d, d2)]))) J1 ⟨δ, M1, _, hδ.mono (e0.trans e1), m1, z1, fun v2 H2 d2 M2 e2 d2' m2 z2 => ⟨d2, M2, e2, d2', m2, z2⟩⟩) fun u2 s2 ⟨w2, H2, J2, r2, d2, M2, e2, dd2, m2, hk, em, z2⟩ => ?_
  refine pairTrees_nil_walk ?_
  show wpAny _ _ (forIn [(u, u2)] PUnit.unit fun (x : Value × Value) (_ : PUnit) => (do dictSet s.heap.objs.size x.1 x.2; pure (ForInStep.yield PUnit.unit) : Sem (ForInStep PUnit))) _ _ s2
  rw [List.forIn_cons]
  have fin : ∀ s3, (∃ H3, Inv X pins σ H3 s3 ∧ ∃ M3, Ext X.K H2 H3 ∧ Mr (wd X T) H3 M3 ∧ q (.ref s.heap.objs.size) M3) → EP X pins σ Q (.ref s.heap.objs.size) s3 := fun s3 ⟨H3, J3, M3, e3, m3, z3⟩ => ⟨.ref s.heap.objs.size, H3, J3, rfl, k _ _ _ M3 ((e0.trans e1).trans (e2.trans e3)) (.ref _) m3 z3⟩
  have dk := m2.obj _ _ em
  obtain ⟨ht, nk, hk1, h8⟩ := hk
  have d1' := d1.mono e2
  have sys := DctOk.noSys J2 dk
  obtain ⟨b1, rfl⟩ := den_tup_ref d1' ht
  cases r1
  have key : (nestedKind X.prog X.w).is s2.heap nk b1 := ⟨Den.nested J2 d1' hk1 rfl, h8⟩
  have main : Mut (H2 s.heap.objs.size) → s2.heap.DictOfH (nestedKind X.prog X.w) s.heap.objs.size [] → wpAny (model X.prog X.w) X.A (dictSet s.heap.objs.size (.ref b1) u2) (fun _ s3 => EP X pins σ Q (.ref s.heap.objs.size) s3) X.xe s2 := fun mu dd => by
    refine wpAny_dictSet_heap (hsz := Nat.zero_le _) (show X.A.units + 8 < cLine by omega) key dd fun h' dd' hs' => ?_
    have he : ∃ q, h'.get? s.heap.objs.size = some q := let ⟨q, _, _, hq, _⟩ := dd'; ⟨q, hq⟩
    refine fin _ ⟨_, d_write J2 mu hs' he (dct_obj dd'), _, Ext.upd_mut mu, m2.put (o := .dct [(d, d2)]) mu (.inr ⟨sys, by show (1 : Nat) ≤ sizeLine; rw [sizeLine_eq]; decide, _, upd_same, ?_, ?_⟩), z2⟩
    · obtain ⟨_, _, _, _, _, _, _, _, n⟩ := dd'; exact n
    · exact .cons ⟨d1'.mono (Ext.upd_mut mu), hk1, h8, w2, r2, dd2.mono (Ext.upd_mut mu)⟩ .nil
  refine wpAny_bind (wpAny_bind (thn (Q := fun _ s3 => EP X pins σ Q (.ref s.heap.objs.size) s3) ?_ fun _ s3 h3 => wpAny_pure ?_))
  · rcases dk with ⟨vs, e, p⟩ | ⟨_, _, xs, e, n, p⟩
    · cases p
      obtain ⟨_, _, ws, kv, o, es, ep, e1, ex, hd', _, hp, _⟩ := (show ObjOk X.prog X.w H2 s2.heap s.heap.objs.size (.dK []) from J2.hok _ _ e)
      cases kv
      have hes : es.toList = [] := by cases h9 : es.toList with
        | nil => rfl
        | cons z zs => rw [h9] at hp; cases hp
      exact main (by rw [e]; trivial) ⟨o, es, ep, e1, ex, hd', by rw [hes]; rfl, by simp, List.nodup_nil⟩
    · cases p
      exact main (by rw [e]; trivial) (dct_keyed J2 e n .nil)
  · show wpAny _ _ (forIn ([] : List (Value × Value)) PUnit.unit _) _ _ s3
    rw [List.forIn_nil]; exact wpAny_pure h3
end
end Lk
set_option Elab.async false
set_option linter.all false
set_option maxRecDepth 100000
set_option maxHeartbeats 1000000
/-! Lark, part 11: the order of data, sorted. -/
namespace Lk
open PySem PySem.Spec PyProof.Rows L2

/-! ### the order of keys: total, by kinds first -/
mutual
def ltK : NestedKey → NestedKey → Bool
  | .num a, .num b => decide (a < b)
  | .text a, .text b => decide (a.cps.toList < b.cps.toList)
  | .tup a, .tup b => ltKs a b
  | .none, .num _ => true
  | .none, .text _ => true
  | .none, .tup _ => true
  | .num _, .text _ => true
  | .num _, .tup _ => true
  | .text _, .tup _ => true
  | .none, .none => false
  | .num _, .none => false
  | .text _, .none => false
  | .text _, .num _ => false
  | .tup _, .none => false
  | .tup _, .num _ => false
  | .tup _, .text _ => false
def ltKs : List NestedKey → List NestedKey → Bool
  | [], [] => false
  | [], _ :: _ => true
  | _ :: _, [] => false
  | x :: xs, y :: ys => if NestedKey.beq x y = true then ltKs xs ys else ltK x y
end
mutual
/-- x < y is no error -/
def okK : NestedKey → NestedKey → Bool
  | .num _, .num _ => true
  | .text _, .text _ => true
  | .tup a, .tup b => okKs a b
  | _, _ => false
def okKs : List NestedKey → List NestedKey → Bool
  | x :: xs, y :: ys => (NestedKey.beq x y || okK x y) && okKs xs ys
  | _, _ => true
end
theorem beq_iff {a b : NestedKey} : NestedKey.beq a b = true ↔ a = b := ⟨NestedKey.eq_of_beq a b, fun h => h ▸ NestedKey.beq_self a⟩
theorem ls_irrefl (l : List Nat) : ¬ l < l := List.lt_irrefl l
theorem ls_trans {a b c : List Nat} (h : a < b) (k : b < c) : a < c := List.lt_trans h k
theorem ls_tri (a b : List Nat) : a < b ∨ a = b ∨ b < a := by
  by_cases h : a < b
  · exact .inl h
  · by_cases k : b < a
    · exact .inr (.inr k)
    · exact .inr (.inl (List.le_antisymm (List.not_lt.mp k) (List.not_lt.mp h)))
mutual
theorem ltK_irrefl : ∀ x : NestedKey, ltK x x = false
  | .none => rfl
  | .num a => by simp [ltK]
  | .text a => by simp [ltK, ls_irrefl]
  | .tup a => by rw [ltK]; exact ltKs_irrefl a
theorem ltKs_irrefl : ∀ x : List NestedKey, ltKs x x = false
  | [] => rfl
  | x :: xs => by rw [ltKs, if_pos (NestedKey.beq_self x)]; exact ltKs_irrefl xs
end
theorem str_ext {a b : Str} (h : a.cps.toList = b.cps.toList) : a = b := by
  cases a; cases b
  congr 1
  exact Array.ext' h
mutual
theorem ltK_tri : ∀ x y : NestedKey, ltK x y = true ∨ x = y ∨ ltK y x = true
  | .none, .none => .inr (.inl rfl)
  | .none, .num _ => .inl rfl
  | .none, .text _ => .inl rfl
  | .none, .tup _ => .inl rfl
  | .num _, .none => .inr (.inr rfl)
  | .num a, .num b => by
    by_cases h : a < b
    · exact .inl (by simpa [ltK] using h)
    · by_cases k : b < a
      · exact .inr (.inr (by simpa [ltK] using k))
      · exact .inr (.inl (by congr 1; omega))
  | .num _, .text _ => .inl rfl
  | .num _, .tup _ => .inl rfl
  | .text _, .none => .inr (.inr rfl)
  | .text _, .num _ => .inr (.inr rfl)
  | .text a, .text b => by
    rcases ls_tri a.cps.toList b.cps.toList with h | h | h
    · exact .inl (by simpa [ltK] using h)
    · exact .inr (.inl (by rw [str_ext h]))
    · exact .inr (.inr (by simpa [ltK] using h))
  | .text _, .tup _ => .inl rfl
  | .tup _, .none => .inr (.inr rfl)
  | .tup _, .num _ => .inr (.inr rfl)
  | .tup _, .text _ => .inr (.inr rfl)
  | .tup a, .tup b => by
    rcases ltKs_tri a b with h | h | h
    · exact .inl (by rw [ltK]; exact h)
    · exact .inr (.inl (by rw [h]))
    · exact .inr (.inr (by rw [ltK]; exact h))
theorem ltKs_tri : ∀ x y : List NestedKey, ltKs x y = true ∨ x = y ∨ ltKs y x = true
  | [], [] => .inr (.inl rfl)
  | [], _ :: _ => .inl rfl
  | _ :: _, [] => .inr (.inr rfl)
  | x :: xs, y :: ys => by
    rw [ltKs, ltKs]
    by_cases e : x = y
    · subst e
      rw [if_pos (NestedKey.beq_self x), if_pos (NestedKey.beq_self x)]
      rcases ltKs_tri xs ys with h | h | h
      · exact .inl h
      · exact .inr (.inl (by rw [h]))
      · exact .inr (.inr h)
    · rw [if_neg fun z => e (beq_iff.mp z), if_neg fun z => e (beq_iff.mp z).symm]
      rcases ltK_tri x y with h | h | h
      · exact .inl h
      · exact absurd h e
      · exact .inr (.inr h)
end
mutual
theorem ltK_trans : ∀ {x y z : NestedKey}, ltK x y = true → ltK y z = true → ltK x z = true
  | x, .none, z, h, _ => by cases x <;> simp [ltK] at h
  | x, .num b, z, h, k => by
    cases x <;> simp [ltK] at h
    · cases z <;> simp [ltK] at k ⊢
    · cases z <;> simp [ltK] at k ⊢
      omega
  | x, .text b, z, h, k => by
    cases x <;> simp [ltK] at h
    · cases z <;> simp [ltK] at k ⊢
    · cases z <;> simp [ltK] at k ⊢
    · cases z <;> simp [ltK] at k ⊢
      exact ls_trans h k
  | .tup a, .tup b, .tup c, h, k => by rw [ltK] at h k ⊢; exact ltKs_trans h k
  | .none, .tup b, .tup c, h, k => rfl
  | .num _, .tup b, .tup c, h, k => rfl
  | .text _, .tup b, .tup c, h, k => rfl
  | x, .tup b, .none, h, k => by simp [ltK] at k
  | x, .tup b, .num _, h, k => by simp [ltK] at k
  | x, .tup b, .text _, h, k => by simp [ltK] at k
theorem ltKs_trans : ∀ {x y z : List NestedKey}, ltKs x y = true → ltKs y z = true → ltKs x z = true
  | [], [], _, h, _ => by simp [ltKs] at h
  | [], _ :: _, [], _, k => by simp [ltKs] at k
  | [], _ :: _, _ :: _, _, _ => rfl
  | _ :: _, [], _, h, _ => by simp [ltKs] at h
  | _ :: _, _ :: _, [], _, k => by simp [ltKs] at k
  | x :: xs, y :: ys, z :: zs, h, k => by
    rw [ltKs] at h k ⊢
    by_cases e1 : x = y
    · subst e1
      rw [if_pos (NestedKey.beq_self x)] at h
      by_cases e2 : x = z
      · subst e2
        rw [if_pos (NestedKey.beq_self x)] at k ⊢
        exact ltKs_trans h k
      · rw [if_neg fun z => e2 (beq_iff.mp z)] at k ⊢
        exact k
    · rw [if_neg fun z => e1 (beq_iff.mp z)] at h
      by_cases e2 : y = z
      · subst e2
        rw [if_neg fun z => e1 (beq_iff.mp z)]
        exact h
      · rw [if_neg fun z => e2 (beq_iff.mp z)] at k
        have t := ltK_trans h k
        rw [if_neg ?_]
        · exact t
        · intro q
          have q := beq_iff.mp q
          subst q
          rw [ltK_irrefl] at t
          cases t
end
theorem swoK : SrtO.Swo ltK := by
  refine ⟨fun x y h => ?_, fun x y z h1 h2 => ?_⟩
  · cases e : ltK y x with
    | false => rfl
    | true =>
      have := ltK_trans h e
      rw [ltK_irrefl] at this; cases this
  · cases e : ltK z x with
    | false => rfl
    | true =>
      rcases ltK_tri x y with h | h | h
      · rw [ltK_trans e h] at h2; cases h2
      · subst h; rw [e] at h2; cases h2
      · rw [h] at h1; cases h1

/-! ### values that are keys, without bools -/
mutual
inductive NI (h : Heap) : NestedKey → Value → Prop
  | none : NI h .none .none
  | int (i t) : NI h (.num i) (.int i t)
  | text (x t) : NI h (.text x) (.str x t)
  | tup {a o vs n ks} : h.get? a = some o → o.cls = .type "tuple" → o.data = .seq vs n → NIs h ks vs.toList → NI h (.tup ks) (.ref a)
inductive NIs (h : Heap) : List NestedKey → List Value → Prop
  | nil : NIs h [] []
  | cons {k v ks vs} : NI h k v → NIs h ks vs → NIs h (k :: ks) (v :: vs)
end
mutual
theorem NI.is {h : Heap} : ∀ {k : NestedKey} {v : Value}, NI h k v → NestedIs h k v
  | _, _, .none => .none
  | _, _, .int i t => .int i t
  | _, _, .text x t => .text x t
  | _, _, .tup a b c d => .tup a b c (NIs.is d)
theorem NIs.is {h : Heap} : ∀ {k : List NestedKey} {v : List Value}, NIs h k v → NestedAll h k v
  | _, _, .nil => .nil
  | _, _, .cons a b => .cons (NI.is a) (NIs.is b)
end
mutual
theorem NI.at {h h' : Heap} (hk : ∀ a o, h.get? a = some o → o.cls = .type "tuple" → h'.get? a = some o) : ∀ {k : NestedKey} {v : Value}, NI h k v → NI h' k v
  | _, _, .none => .none
  | _, _, .int i t => .int i t
  | _, _, .text x t => .text x t
  | _, _, .tup a b c d => .tup (hk _ _ a b) b c (NIs.at hk d)
theorem NIs.at {h h' : Heap} (hk : ∀ a o, h.get? a = some o → o.cls = .type "tuple" → h'.get? a = some o) : ∀ {k : List NestedKey} {v : List Value}, NIs h k v → NIs h' k v
  | _, _, .nil => .nil
  | _, _, .cons a b => .cons (NI.at hk a) (NIs.at hk b)
end
theorem NIs.length {h : Heap} : ∀ {k : List NestedKey} {v : List Value}, NIs h k v → v.length = k.length
  | _, _, .nil => rfl
  | _, _, .cons _ b => by rw [List.length_cons, List.length_cons, NIs.length b]
theorem NIs.get {h : Heap} : ∀ {k : List NestedKey} {v : List Value} {i : Nat} {x : Value}, NIs h k v → v[i]? = some x → ∃ y, k[i]? = some y ∧ NI h y x
  | _, _, _, _, .nil, e => by simp at e
  | _, _, 0, _, .cons a _, e => by simp at e; subst e; exact ⟨_, rfl, a⟩
  | _, _, i + 1, _, .cons _ b, e => by simp at e ⊢; exact NIs.get b e
section
variable {X : Cx} {pins : List (Addr × Obj)} {σ : L2.St} {H : Hp} {s : Shared}
mutual
theorem Den.ni (I : Inv X pins σ H s) : ∀ {d : D} {v : V}, Den X.K H d v → ∀ {k : NestedKey} {u : Value}, keyOf d = some k → RelV v u → NI s.heap k u
  | _, _, .non, _, _, h, r => by cases h; cases r; exact .none
  | _, _, .bl b, _, _, h, r => by cases h
  | _, _, .int i, _, _, h, r => by cases h; obtain ⟨t, rfl⟩ := r; exact .int i t
  | _, _, .str x, _, _, h, r => by cases h; obtain ⟨t, rfl⟩ := r; exact .text x t
  | _, _, .ty n, _, _, h, r => by cases h
  | _, _, .ref a, _, _, h, r => by cases h
  | _, _, .rol s l, _, _, h, r => by cases h
  | _, _, @Den.tup _ _ a xs vs sq l, k, u, h, r => by
    have h' : (match keysOf xs with | some ks => some (NestedKey.tup ks) | none => none) = some k := h
    cases r
    obtain ⟨its, rv, ⟨o, e, hc, n, hd⟩, _⟩ := I.tuple sq
    cases q : keysOf xs with
    | none => rw [q] at h'; cases h'
    | some ks =>
      rw [q] at h'
      cases h'
      exact .tup e hc hd (by simpa using DenL.ni I l q rv)
theorem DenL.ni (I : Inv X pins σ H s) : ∀ {ds : List D} {vs : List V}, DenL X.K H ds vs → ∀ {ks : List NestedKey} {us : List Value}, keysOf ds = some ks → Vals vs us → NIs s.heap ks us
  | _, _, .nil, _, _, h, .nil => by cases h; exact .nil
  | _, _, @DenL.cons _ _ d v ds vs a t, ks, _, h, .cons r rs => by
    have h' : (match keyOf d, keysOf ds with | some k, some ks => some (k :: ks) | _, _ => none) = some ks := h
    cases q : keyOf d with
    | none => rw [q] at h'; cases h'
    | some k =>
      cases q2 : keysOf ds with
      | none => rw [q, q2] at h'; cases h'
      | some kr =>
        rw [q, q2] at h'
        cases h'
        exact .cons (Den.ni I a q r) (DenL.ni I t q2 rs)
end
end
/-! ### < in the model -/
def zK : List NestedKey → List NestedKey → Bool := fun xs ys => decide (xs.length < ys.length)
theorem lex_ltKs : ∀ (xs ys : List NestedKey), Ob.lexAt (fun j => keyEqAt xs ys j) (fun j => ltK (xs.getD j .none) (ys.getD j .none)) (decide (xs.length < ys.length)) 0 (min xs.length ys.length) = ltKs xs ys := by
  have gen : ∀ (k i : Nat) (xs ys : List NestedKey), min xs.length ys.length - i = k → i ≤ min xs.length ys.length → Ob.lexAt (fun j => keyEqAt xs ys j) (fun j => ltK (xs.getD j .none) (ys.getD j .none)) (decide (xs.length < ys.length)) i k = ltKs (xs.drop i) (ys.drop i) := by
    intro k
    induction k with
    | zero =>
      intro i xs ys h hi
      rw [Ob.lexAt_zero]
      by_cases hx : i < xs.length
      · have hy : ys.length ≤ i := by omega
        rw [List.drop_of_length_le hy, List.drop_eq_getElem_cons hx]
        show _ = false
        exact decide_eq_false (by omega)
      · rw [List.drop_of_length_le (show xs.length ≤ i by omega)]
        by_cases hy : i < ys.length
        · rw [List.drop_eq_getElem_cons hy]
          show _ = true
          exact decide_eq_true (by omega)
        · rw [List.drop_of_length_le (show ys.length ≤ i by omega)]
          show _ = false
          exact decide_eq_false (by omega)
    | succ k ih =>
      intro i xs ys h hi
      have hx : i < xs.length := by omega
      have hy : i < ys.length := by omega
      rw [Ob.lexAt_succ, List.drop_eq_getElem_cons hx, List.drop_eq_getElem_cons hy]
      have e1 : keyEqAt xs ys i = NestedKey.beq xs[i] ys[i] := by
        unfold keyEqAt
        simp [hx, hy]
      have e2 : xs.getD i .none = xs[i] := by simp [hx]
      have e3 : ys.getD i .none = ys[i] := by simp [hy]
      rw [e1, e2, e3, ltKs]
      by_cases e : NestedKey.beq xs[i] ys[i] = true
      · rw [if_pos e, if_pos e]
        exact ih (i + 1) xs ys (by omega) (by omega)
      · rw [if_neg e, if_neg e]
  intro xs ys
  have := gen _ 0 xs ys (Nat.sub_zero _) (Nat.zero_le _)
  simpa using this

theorem okKs_at : ∀ {xs ys : List NestedKey} {j : Nat} {x y : NestedKey}, okKs xs ys = true → xs[j]? = some x → ys[j]? = some y → NestedKey.beq x y = false → okK x y = true
  | [], _, _, _, _, _, h, _, _ => by simp at h
  | _ :: _, [], _, _, _, _, _, h, _ => by simp at h
  | a :: xs, b :: ys, 0, x, y, h, h1, h2, h3 => by
    simp at h1 h2
    subst h1 h2
    rw [okKs, h3, Bool.false_or, Bool.and_eq_true] at h
    exact h.1
  | a :: xs, b :: ys, j + 1, x, y, h, h1, h2, h3 => by
    rw [okKs, Bool.and_eq_true] at h
    simp at h1 h2
    exact okKs_at h.2 h1 h2 h3
theorem depth_mem : ∀ {ks : List NestedKey} {j : Nat} {k : NestedKey}, ks[j]? = some k → k.depth ≤ NestedKey.depthAll ks
  | [], _, _, h => by simp at h
  | a :: ks, 0, k, h => by simp at h; subst h; rw [NestedKey.depthAll]; exact Nat.le_max_left _ _
  | a :: ks, j + 1, k, h => by simp at h; rw [NestedKey.depthAll]; exact Nat.le_trans (depth_mem h) (Nat.le_max_right _ _)
section
variable {s : Shared}
/-- what the places of two keys give -/
theorem lt_parts {xs ys : List NestedKey} {vs ws : Array Value} {A : Around} (hx : NIs s.heap xs vs.toList) (hy : NIs s.heap ys ws.toList) (hok : okKs xs ys = true) (hu : A.units + 1 + min (NestedKey.depthAll xs) (NestedKey.depthAll ys) < cLine)
    (ih : ∀ (x y : NestedKey) (a b : Value), x.depth ≤ NestedKey.depthAll xs → y.depth ≤ NestedKey.depthAll ys → NI s.heap x a → NI s.heap y b → okK x y = true → A.in1.units + min x.depth y.depth < cLine → Ob.RcOp .Lt A.in1 s a b (ltK x y)) :
    (∀ j (h1 : j < vs.size) (h2 : j < ws.size), SeqAt.EqAt A.in1 s vs[j] ws[j] (keyEqAt xs ys j)) ∧
    ∀ j (h1 : j < vs.size) (h2 : j < ws.size), keyEqAt xs ys j = false → Ob.RcOp .Lt A.in1 s vs[j] ws[j] (ltK (xs.getD j .none) (ys.getD j .none)) := by
  refine ⟨fun j h1 h2 => ?_, fun j h1 h2 he => ?_⟩
  · have := eqAt_keys xs ys A.in1 s vs.toList ws.toList (NIs.is hx) (NIs.is hy) hu j (by simpa using h1) (by simpa using h2)
    simpa using this
  · obtain ⟨x, ex, nx⟩ := NIs.get (i := j) hx (by simp [h1] : vs.toList[j]? = some vs[j])
    obtain ⟨y, ey, ny⟩ := NIs.get (i := j) hy (by simp [h2] : ws.toList[j]? = some ws[j])
    have d1 : xs.getD j .none = x := by rw [List.getD_eq_getElem?_getD, ex]; rfl
    have d2 : ys.getD j .none = y := by rw [List.getD_eq_getElem?_getD, ey]; rfl
    rw [d1, d2]
    have hb : NestedKey.beq x y = false := by
      have he' : (xs.getD j .none).beq (ys.getD j .none) = false := he
      rw [d1, d2] at he'
      exact he'
    have l1 := depth_mem ex
    have l2 := depth_mem ey
    refine ih x y _ _ l1 l2 nx ny (okKs_at hok ex ey hb) ?_
    show A.units + 1 + _ < _
    omega
theorem lt_rc : ∀ (n : Nat) (x y : NestedKey) (A : Around) (a b : Value), x.depth ≤ n → NI s.heap x a → NI s.heap y b → okK x y = true → A.units + min x.depth y.depth < cLine → Ob.RcOp .Lt A s a b (ltK x y) := by
  intro n
  induction n with
  | zero =>
    intro x y A a b hd hx hy hok hu
    cases hx with
    | none => cases y <;> simp [okK] at hok
    | int i t => cases hy with
      | int j u => exact .lt_int i j t u
      | _ => simp [okK] at hok
    | text z t => cases hy with
      | text w u => exact fun _ _ _ _ h => PyProof.Rows.lt_str h
      | _ => simp [okK] at hok
    | tup _ _ _ _ => rw [NestedKey.depth] at hd; omega
  | succ n ih =>
    intro x y A a b hd hx hy hok hu
    cases hx with
    | none => cases y <;> simp [okK] at hok
    | int i t => cases hy with
      | int j u => exact .lt_int i j t u
      | _ => simp [okK] at hok
    | text z t => cases hy with
      | text w u => exact fun _ _ _ _ h => PyProof.Rows.lt_str h
      | _ => simp [okK] at hok
    | @tup l o vs m xs h1 h2 h3 h4 =>
      cases hy with
      | @tup l' o' ws m' ys k1 k2 k3 k4 =>
        rw [okK] at hok
        rw [NestedKey.depth] at hd
        have hu' : A.units + 1 + min (NestedKey.depthAll xs) (NestedKey.depthAll ys) < cLine := by
          have e1 : (NestedKey.tup xs).depth = NestedKey.depthAll xs + 1 := by rw [NestedKey.depth]
          have e2 : (NestedKey.tup ys).depth = NestedKey.depthAll ys + 1 := by rw [NestedKey.depth]
          rw [e1, e2] at hu
          omega
        obtain ⟨p1, p2⟩ := lt_parts (A := A) h4 k4 hok hu' fun x y a b dx _ nx ny ho hh => ih x y A.in1 a b (by omega) nx ny ho hh
        have := Ob.RcOp.tuples_lt (A := A) ⟨o, h1, h2, m, h3⟩ ⟨o', k1, k2, m', k3⟩ (by omega) p1 p2
        have n1 : vs.size = xs.length := by simpa using NIs.length h4
        have n2 : ws.size = ys.length := by simpa using NIs.length k4
        rw [n1, n2, lex_ltKs] at this
        rw [ltK]
        exact this
      | _ => simp [okK] at hok
end
/-- x < y of data -/
def oLt : D2 := fun x y M q => ∃ k l, keyOf x = some k ∧ keyOf y = some l ∧ okK k l = true ∧ k.depth ≤ 60 ∧ q (.bl (ltK k l)) M
section
variable {X : Cx} {T : List Addr}
theorem opd_lt (hu : X.A.units + 64 < cLine) : OP' X T (compareOp .Lt) oLt := by
  intro pins s σ H x y v u Q I rx ry ⟨d, e, M, q, hd, he, hM, ⟨k, l, h1, h2, hok, h60, z⟩, kk⟩
  exact lt_rc _ k l X.A v u (Nat.le_refl _) (Den.ni I hd h1 rx) (Den.ni I he h2 ry) hok (by omega) _ _ _ _ ⟨.bl _, H, I, rfl, kk _ _ _ _ .refl (.bl _) hM z⟩
end

/-! ### sorting keys -/
section
variable {prog : Program} {w : World} {A : Around} {s : Shared}
theorem tup_call_lt {a b : Addr} {o o2 : Obj} {items items2 : Array Value} {n n2 : Nat} {e r : Nat → Bool} {E : Value → Shared → Prop} {Q : Value → Shared → Prop} (ho : s.heap.get? a = some o) (hc : o.cls = .type "tuple") (hd : o.data = .seq items n) (ho2 : s.heap.get? b = some o2) (hc2 : o2.cls = .type "tuple") (hd2 : o2.data = .seq items2 n2)
    (he : ∀ j (h1 : j < items.size) (h2 : j < items2.size), SeqAt.EqAt A.in1 s items[j] items2[j] (e j))
    (hr : ∀ j (h1 : j < items.size) (h2 : j < items2.size), e j = false → Ob.RcOp .Lt A.in1 s items[j] items2[j] (r j))
    (h : Q (.bool (Ob.lexAt e r (decide (items.size < items2.size)) 0 (min items.size items2.size))) s) : wpAny (model prog w) A (call (.builtin "tuple.__lt__") [.ref a, .ref b]) Q E s := by
  obtain ⟨cls, dd, data, sl⟩ := o
  obtain ⟨cls2, dd2, data2, sl2⟩ := o2
  simp only at hc hd hc2 hd2
  subst hc hd hc2 hd2
  exact call_meets F.slot_tuple_lt ⟨_, ho, rfl⟩ F.entry_tuple_lt (F.args_tuple_lt_2 _ _) (Ob.tuple_ltAt a b items items2 n n2 dd dd2 sl sl2 e r) ⟨ho, ho2, he, hr, h⟩
theorem one_lt {x y : NestedKey} {a b : Value} {f : Bool} (hx : NI s.heap x a) (hy : NI s.heap y b) (hok : okK x y = true) (hu : A.units + min x.depth y.depth < cLine) {Q : Bool → Shared → Prop} {E : Value → Shared → Prop} (h : Q (ltK x y) s) : wpAny (model prog w) A (oneLt' f a b) Q E s := by
  cases f with
  | false => exact PySem.W.kat_one _ _ (lt_rc _ x y A a b (Nat.le_refl _) hx hy hok hu _ _ _ _ h)
  | true =>
    cases hx with
    | none => cases y <;> simp [okK] at hok
    | int i t => cases hy with
      | int j u => exact oneLt_int h
      | _ => simp [okK] at hok
    | text z t => cases hy with
      | text w u => exact oneLt_str h
      | _ => simp [okK] at hok
    | @tup l o vs m xs h1 h2 h3 h4 =>
      cases hy with
      | @tup l' o' ws m' ys k1 k2 k3 k4 =>
        rw [okK] at hok
        have hu' : A.units + 1 + min (NestedKey.depthAll xs) (NestedKey.depthAll ys) < cLine := by
          have e1 : (NestedKey.tup xs).depth = NestedKey.depthAll xs + 1 := by rw [NestedKey.depth]
          have e2 : (NestedKey.tup ys).depth = NestedKey.depthAll ys + 1 := by rw [NestedKey.depth]
          rw [e1, e2] at hu
          omega
        obtain ⟨p1, p2⟩ := lt_parts (A := A) h4 k4 hok hu' fun x y a b _ _ nx ny ho hh => lt_rc _ x y A.in1 a b (Nat.le_refl _) nx ny ho hh
        rw [oneLt'_eq]
        simp only [if_true]
        refine wpAny_bind (wpAny_cRoomFor (by omega) ?_)
        refine wpAny_bind (wpAny_callSpecialIfBound?_slot (T := "tuple") ⟨o, h1, h2⟩ F.slot_tuple_lt (tup_call_lt h1 h2 h3 k1 k2 k3 p1 p2 ?_))
        refine wpAny_truthy_bool ?_
        have n1 : vs.size = xs.length := by simpa using NIs.length h4
        have n2 : ws.size = ys.length := by simpa using NIs.length k4
        rw [n1, n2, lex_ltKs]
        rw [ltK] at h
        exact h
      | _ => simp [okK] at hok
/-- the tuples' own comparison -/
theorem tups_lt {xs ys : List NestedKey} {a b : Value} {f : Bool} (hx : NI s.heap (.tup xs) a) (hy : NI s.heap (.tup ys) b) (hok : okKs xs ys = true) (hu : A.units + 1 + min (NestedKey.depthAll xs) (NestedKey.depthAll ys) < cLine) {Q : Bool → Shared → Prop} {E : Value → Shared → Prop} (h : Q (ltKs xs ys) s) :
    wpAny (model prog w) A (keyLt' (tuples' f) a b) Q E s := by
  cases hx with
  | @tup l o vs m xs h1 h2 h3 h4 =>
    cases hy with
    | @tup l' o' ws m' ys k1 k2 k3 k4 =>
      refine PySem.W.kat_lt h1 h3 k1 k3 ?_
      have n1 : vs.size = xs.length := by simpa using NIs.length h4
      have n2 : ws.size = ys.length := by simpa using NIs.length k4
      rw [n1, n2]
      have gen : ∀ (xs ys : List NestedKey) (vs ws : List Value) (i : Nat) (fin : Bool) (R : Bool), NIs s.heap xs vs → NIs s.heap ys ws → okKs xs ys = true → A.units + 1 + min (NestedKey.depthAll xs) (NestedKey.depthAll ys) < cLine →
          (fin = decide (xs.length < ys.length)) → Q (ltKs xs ys) s → PySem.W.KatLex prog w A f fin Q (vs.zip ws) i s := by
        intro xs
        induction xs with
        | nil =>
          intro ys vs ws i fin R hv hw _ _ hfin hq
          cases hv
          rw [List.zip_nil_left]
          refine PySem.W.kat_nil ?_
          rw [hfin]
          cases ys with
          | nil => exact hq
          | cons y ys => exact hq
        | cons x xs ih =>
          intro ys vs ws i fin R hv hw hok hu hfin hq
          cases hv with
          | cons nx nxs =>
            cases ys with
            | nil =>
              cases hw
              rw [List.zip_nil_right]
              refine PySem.W.kat_nil ?_
              rw [hfin]; exact hq
            | cons y ys =>
              cases hw with
              | cons ny nys =>
                rw [List.zip_cons_cons]
                have hd1 : x.depth ≤ NestedKey.depthAll (x :: xs) := by rw [NestedKey.depthAll]; exact Nat.le_max_left _ _
                have hd2 : y.depth ≤ NestedKey.depthAll (y :: ys) := by rw [NestedKey.depthAll]; exact Nat.le_max_left _ _
                have hd3 : NestedKey.depthAll xs ≤ NestedKey.depthAll (x :: xs) := by rw [NestedKey.depthAll]; exact Nat.le_max_right _ _
                have hd4 : NestedKey.depthAll ys ≤ NestedKey.depthAll (y :: ys) := by rw [NestedKey.depthAll]; exact Nat.le_max_right _ _
                refine PySem.W.kat_cons (eqAt_key x y A s _ _ (NI.is nx) (NI.is ny) (by omega) _ _ _ _ ?_)
                rw [okKs, Bool.and_eq_true] at hok
                rw [ltKs] at hq
                refine PySem.W.kat_go (fun e => PySem.W.kat_yes ?_) fun e => PySem.W.kat_no ?_
                · rw [if_pos e] at hq
                  exact ih ys _ _ _ fin R nxs nys hok.2 (by omega) (by rw [hfin]; simp) hq
                · rw [e] at hok hq
                  rw [if_neg Bool.false_ne_true] at hq
                  exact one_lt nx ny (by simpa using hok.1) (by omega) hq
      exact gen xs ys vs.toList ws.toList 0 _ true h4 k4 hok hu rfl h
end
end Lk
set_option Elab.async false
set_option linter.all false
set_option maxRecDepth 100000
set_option maxHeartbeats 1000000
/-! Lark, part 12: sorted; a dict's keys. -/
namespace Lk
open PySem PySem.Spec PyProof.Rows L2

section
variable {M : Model} {A : Around} {s : Shared}
theorem ni_type {k : NestedKey} {v : Value} (h : NI s.heap k v) : ∃ Tn, s.TypeIs v Tn ∧ (∀ ks, k = .tup ks → Tn = "tuple") ∧ ((∀ ks, k ≠ .tup ks) → Tn ≠ "tuple") := by
  cases h with
  | none => exact ⟨"NoneType", rfl, fun _ e => (nomatch e), fun _ => by decide⟩
  | int i t => exact ⟨"int", typeIs_int s i t, fun _ e => (nomatch e), fun _ => by decide⟩
  | text x t => exact ⟨"str", typeIs_str s x t, fun _ e => (nomatch e), fun _ => by decide⟩
  | @tup a o vs n ks h1 h2 h3 h4 => exact ⟨"tuple", ⟨o, h1, h2⟩, fun _ _ => rfl, fun z => absurd rfl (z ks)⟩
theorem firsts_of : ∀ {ks : List NestedKey} {vs : List Value}, NIs s.heap ks vs → ∃ os : List (Option Value), (∀ (Q : List (Option Value) → Shared → Prop) (E : Value → Shared → Prop), Q os s → wpAny M A (vs.mapM firstOfTuple') Q E s) ∧ os.length = vs.length ∧
    (os.all (·.isSome) = true → ∀ k ∈ ks, ∃ xs, k = .tup xs) ∧ ∀ f, some f ∈ os → ∃ kf, NI s.heap kf f
  | _, _, .nil => ⟨[], fun Q E h => by rw [List.mapM_nil]; exact wpAny_pure h, rfl, fun _ k hk => (nomatch hk), fun f hf => nomatch hf⟩
  | _, _, @NIs.cons _ k v ks vs hk hr => by
    obtain ⟨os, h1, h2, h3, h4⟩ := firsts_of hr
    have one : ∃ o : Option Value, (∀ (Q : Option Value → Shared → Prop) (E : Value → Shared → Prop), Q o s → wpAny M A (firstOfTuple' v) Q E s) ∧ (o.isSome = true → ∃ xs, k = .tup xs) ∧ ∀ f, o = some f → ∃ kf, NI s.heap kf f := by
      obtain ⟨Tn, t1, t2, t3⟩ := ni_type hk
      by_cases ht : ∃ xs, k = .tup xs
      · obtain ⟨xs, rfl⟩ := ht
        have := t2 xs rfl
        subst this
        cases hk with
        | @tup a o vs' n _ e1 e2 e3 e4 =>
          refine ⟨vs'[0]?, fun Q E h => ?_, fun _ => ⟨xs, rfl⟩, fun f hf => ?_⟩
          · rw [PySem.W.kas_first_eq]
            refine wpAny_bind (wpAny_typeOf t1 ?_)
            rw [if_neg (by simp)]
            exact wpAny_bind (listItems_at e1 e3 (wpAny_pure h))
          · obtain ⟨y, _, ny⟩ := NIs.get (i := 0) e4 (by simpa using hf)
            exact ⟨y, ny⟩
      · have := t3 fun ks e => ht ⟨ks, e⟩
        refine ⟨none, ⟨fun Q E h => ?_, ⟨fun z => (nomatch z), fun f hf => (nomatch hf)⟩⟩⟩
        rw [PySem.W.kas_first_eq]
        refine wpAny_bind (wpAny_typeOf t1 ?_)
        rw [if_pos (by simp [this])]
        exact wpAny_pure h
    obtain ⟨o, o1, o2, o3⟩ := one
    refine ⟨o :: os, fun Q E h => ?_, by simp [h2], fun hall k' hk' => ?_, fun f hf => ?_⟩
    · rw [List.mapM_cons]
      exact wpAny_bind (o1 _ _ (wpAny_bind (h1 (fun bs s' => wpAny M A (pure (o :: bs)) Q E s') E (wpAny_pure h))))
    · rw [List.all_cons, Bool.and_eq_true] at hall
      rcases List.mem_cons.mp hk' with e | e
      · rw [e]; exact o2 hall.1
      · exact h3 hall.2 k' e
    · rcases List.mem_cons.mp hf with e | e
      · exact o3 f e.symm
      · exact h4 f e
theorem types_of : ∀ {vs : List Value}, (∀ v ∈ vs, ∃ k, NI s.heap k v) → ∃ ts : List Value, ∀ (Q : List Value → Shared → Prop) (E : Value → Shared → Prop), Q ts s → wpAny M A (vs.mapM typeOf) Q E s
  | [], _ => ⟨[], fun Q E h => by rw [List.mapM_nil]; exact wpAny_pure h⟩
  | v :: vs, h => by
    obtain ⟨ts, h1⟩ := types_of fun u hu => h u (List.mem_cons_of_mem _ hu)
    obtain ⟨k, hk⟩ := h v List.mem_cons_self
    obtain ⟨Tn, t1, _⟩ := ni_type hk
    refine ⟨.type Tn :: ts, fun Q E hq => ?_⟩
    rw [List.mapM_cons]
    exact wpAny_bind (wpAny_typeOf t1 (wpAny_bind (h1 (fun bs s' => wpAny M A (pure (Value.type Tn :: bs)) Q E s') E (wpAny_pure hq))))
theorem one_type {vs : List Value} (h : ∀ v ∈ vs, ∃ k, NI s.heap k v) : ∃ r : Option Value, ∀ (Q : Option Value → Shared → Prop) (E : Value → Shared → Prop), Q r s → wpAny M A (oneTypeOnly' vs.toArray) Q E s := by
  obtain ⟨ts, h1⟩ := types_of (M := M) (A := A) h
  refine ⟨match ts.toArray[0]? with
    | some t => if ts.toArray.all (· == t) then some t else none
    | none => none, fun Q E hq => ?_⟩
  rw [oneTypeOnly'_eq, List.mapM_toArray, map_eq_pure_bind]
  refine wpAny_bind (wpAny_bind (h1 _ _ (wpAny_pure ?_)))
  cases e : ts.toArray[0]? with
  | none => rw [e] at hq; exact wpAny_pure hq
  | some t => rw [e] at hq; exact wpAny_pure hq
theorem key_kind {ks : List NestedKey} {vs : List Value} (hk : NIs s.heap ks vs) : ∃ κ, (∀ (Q : SortKind → Shared → Prop) (E : Value → Shared → Prop), Q κ s → wpAny M A (keyKind' vs.toArray) Q E s) ∧ (κ = general' ∨ κ = oneType' ∨ ∃ b, κ = tuples' b ∧ ∀ k ∈ ks, ∃ xs, k = .tup xs) := by
  obtain ⟨os, h1, h2, h3, h4⟩ := firsts_of (M := M) (A := A) hk
  have hm : ∀ v ∈ vs, ∃ k, NI s.heap k v := fun v hv => by
    obtain ⟨i, hi, e⟩ := List.getElem_of_mem hv
    obtain ⟨y, _, ny⟩ := NIs.get (i := i) hk (by rw [List.getElem?_eq_getElem hi, e])
    exact ⟨y, ny⟩
  by_cases hall : os.all (·.isSome) = true
  · obtain ⟨r, hr⟩ := one_type (M := M) (A := A) (s := s) (vs := os.filterMap id) fun v hv => by
      obtain ⟨o, ho, e⟩ := List.mem_filterMap.mp hv
      have e : o = some v := e
      subst e
      exact h4 v ho
    refine ⟨tuples' (r.any (· != .type "tuple")), fun Q E hq => ?_, .inr (.inr ⟨_, rfl, h3 hall⟩)⟩
    rw [PyProof.Rows.kat_kind_eq, List.mapM_toArray, map_eq_pure_bind]
    refine wpAny_bind (wpAny_bind (h1 _ _ (wpAny_pure ?_)))
    rw [if_pos (by simpa using hall)]
    refine wpAny_bind (wpAny_rule ?_)
    have hf : (os.toArray.filterMap id) = (os.filterMap id).toArray := by simp
    rw [hf]
    exact wpAny_bind (hr _ _ (wpAny_pure hq))
  · obtain ⟨r, hr⟩ := one_type (M := M) (A := A) hm
    have go : ∀ (Q : SortKind → Shared → Prop) (E : Value → Shared → Prop), (∀ κ, (κ = general' ∨ κ = oneType') → κ = (if (os.toArray[0]?.bind id).isSome = true then general' else if r.isSome = true then oneType' else general') → Q κ s) → wpAny M A (keyKind' vs.toArray) Q E s := fun Q E hq => by
      rw [PyProof.Rows.kat_kind_eq, List.mapM_toArray, map_eq_pure_bind]
      refine wpAny_bind (wpAny_bind (h1 _ _ (wpAny_pure ?_)))
      rw [if_neg (by simpa using hall)]
      by_cases h0 : (os.toArray[0]?.bind id).isSome = true
      · rw [if_pos h0]
        exact wpAny_pure (hq _ (.inl rfl) (by rw [if_pos h0]))
      · rw [if_neg h0]
        refine wpAny_bind (hr _ _ ?_)
        by_cases hb : r.isSome = true
        · rw [if_pos hb]; exact wpAny_pure (hq _ (.inr rfl) (by rw [if_neg h0, if_pos hb]))
        · rw [if_neg hb]; exact wpAny_pure (hq _ (.inl rfl) (by rw [if_neg h0, if_neg hb]))
    refine ⟨if (os.toArray[0]?.bind id).isSome = true then general' else if r.isSome = true then oneType' else general', fun Q E hq => go Q E fun κ _ e => by rw [e]; exact hq, ?_⟩
    split
    · exact .inl rfl
    · split
      · exact .inr (.inl rfl)
      · exact .inl rfl
end
theorem NI.uniq {h : Heap} {k l : NestedKey} {v : Value} (a : NI h k v) (b : NI h l v) : k = l := NestedIs.inj _ _ _ a.is b.is
open Classical in
/-- the key of a value -/
noncomputable def kof (h : Heap) (v : Value) : NestedKey := if e : ∃ k, NI h k v then e.choose else .none
theorem kof_eq {h : Heap} {k : NestedKey} {v : Value} (a : NI h k v) : kof h v = k := by
  unfold kof
  have e : ∃ k, NI h k v := ⟨k, a⟩
  rw [dif_pos e]
  exact NI.uniq e.choose_spec a
theorem NIs.kof {h : Heap} : ∀ {ks : List NestedKey} {vs : List Value}, NIs h ks vs → vs.map (kof h) = ks
  | _, _, .nil => rfl
  | _, _, .cons a b => by rw [List.map_cons, kof_eq a, NIs.kof b]
/-- each of them compares with each -/
def AllOk (ks : List NestedKey) : Prop := (∀ k ∈ ks, ∀ l ∈ ks, okK k l = true) ∧ ∀ k ∈ ks, k.depth ≤ 60
section
variable {prog : Program} {w : World} {A : Around} {s : Shared}
theorem keys_sortable {a : Addr} {ks : List NestedKey} {vs : List Value} {h0 : Heap} (hu : A.units + 64 < cLine) (hk : NIs h0 ks vs) (hok : AllOk ks) (kp : ∀ h' : Heap, (∀ b o, b ≠ a → s.heap.get? b = some o → h'.get? b = some o) → ∀ b o, h0.get? b = some o → o.cls = .type "tuple" → h'.get? b = some o) :
    SrtO.SortableO prog w A s a vs fun u v => ltK (kof h0 u) (kof h0 v) := by
  intro h' keep
  have hk' : NIs h' ks vs := hk.at (kp h' keep)
  obtain ⟨κ, h1, h2⟩ := key_kind (M := model prog w) (A := A) (s := { s with heap := h' }) hk'
  refine ⟨κ, h1, fun p q hp hq => ?_⟩
  obtain ⟨i, hi, e1⟩ := List.getElem_of_mem hp
  obtain ⟨j, hj, e2⟩ := List.getElem_of_mem hq
  obtain ⟨k, ek, nk⟩ := NIs.get (i := i) hk' (by rw [List.getElem?_eq_getElem hi, e1])
  obtain ⟨l, el, nl⟩ := NIs.get (i := j) hk' (by rw [List.getElem?_eq_getElem hj, e2])
  obtain ⟨k0, ek0, nk0⟩ := NIs.get (i := i) hk (by rw [List.getElem?_eq_getElem hi, e1])
  obtain ⟨l0, el0, nl0⟩ := NIs.get (i := j) hk (by rw [List.getElem?_eq_getElem hj, e2])
  rw [ek] at ek0; cases ek0
  rw [el] at el0; cases el0
  have mk := List.mem_of_getElem? ek
  have ml := List.mem_of_getElem? el
  have ho := hok.1 k mk l ml
  have d1 := hok.2 k mk
  have goal : ∀ r, r = ltK k l → ({ s with heap := h' } : Shared) = { s with heap := h' } ∧ r = SrtO.lt2 (fun u v => ltK (kof h0 u) (kof h0 v)) p q := fun r hr => ⟨rfl, by
    show r = ltK (kof h0 p.1) (kof h0 q.1)
    rw [kof_eq nk0, kof_eq nl0]; exact hr⟩
  rcases h2 with rfl | rfl | ⟨b, rfl, ht⟩
  · exact one_lt (f := false) nk nl ho (by omega) (goal _ rfl)
  · exact one_lt (f := true) nk nl ho (by omega) (goal _ rfl)
  · obtain ⟨xs, rfl⟩ := ht k mk
    obtain ⟨ys, rfl⟩ := ht l ml
    rw [okK] at ho
    have e3 : (NestedKey.tup xs).depth = NestedKey.depthAll xs + 1 := by rw [NestedKey.depth]
    rw [e3] at d1
    refine tups_lt nk nl ho (by omega) (goal _ ?_)
    rw [ltK]
/-- sorted(r), what r collects: keys -/
theorem sorted_keys {r : Value} {ks : List NestedKey} {Q E : Value → Shared → Prop} (hu : A.units + 70 < cLine) (hok : AllOk ks) (args : argsOk "sorted" ⟨[r], []⟩)
    (hcol : wpAny (model prog w) A.in1 (collect r) (fun vs s1 => ∃ h1 tk, s1 = { s with heap := h1, toks := tk } ∧ (∀ b o, s.heap.get? b = some o → h1.get? b = some o) ∧ NIs h1 ks vs ∧ vs.length ≤ sizeLine ∧
      ∀ (h' : Heap) (d : Addr) (out : List Value) (ks' : List NestedKey), out.Perm vs → NIs h' ks' out → ks'.Perm ks → ks'.Pairwise (fun a b => ltK b a = false) → (∀ b o, h1.get? b = some o → h'.get? b = some o) → h1.objs.size ≤ d → (∃ n, h'.get? d = some (seqObj "list" out.toArray n)) → Q (.ref d) { s with heap := h', toks := tk }) E s) :
    wpAny (model prog w) A (call (.builtin "sorted") [r]) Q E s := by
  refine Calls.call_function_entry kind_sorted plain_sorted entry_sorted args ?_
  unfold Builtin.«sorted»
  refine wpAny_bind (m := checkCount "sorted" 1 1 _) (wpAny_pure ?_)
  refine wpAny_bind (wpAny_mono hcol (fun vs s1 h => ?_) fun _ _ e => e)
  obtain ⟨h1, tk, rfl, kp1, nk, hz, fin⟩ := h
  refine wpAny_bind (wpAny_newList ?_ hz)
  have hoL : (h1.push (seqObj "list" vs.toArray 0)).get? h1.objs.size = some (seqObj "list" vs.toArray 0) := Heap.get?_push_size _ rfl
  have kp2 : ∀ b o, h1.get? b = some o → (h1.push (seqObj "list" vs.toArray 0)).get? b = some o := fun b o e => Heap.get?_push_of_some _ e
  show wpAny _ _ _ _ _ { s with heap := h1.push (seqObj "list" vs.toArray 0), toks := tk }
  refine wpAny_bind (wpAny_holding (wpAny_call_entry slot_list_sort ⟨_, hoL, rfl⟩ entry_list_sort (SrtO.list_sort_ord (ltv := fun u v => ltK (kof h1 u) (kof h1 v)) ⟨fun x y => swoK.asym _ _, fun x y z => swoK.tr _ _ _⟩ hoL hz
    (fun _ => keys_sortable (by show A.units + 1 + 1 + 64 < _; omega) nk hok fun h' keep b o e c => keep b o (fun z => Nat.lt_irrefl _ (by have := Heap.lt_size e; rw [z] at this; exact this)) (kp2 b o e)) fun out hs hb => ⟨_, rfl, ?_⟩) (args_list_sort _)))
  refine wpAny_pure ⟨_, rfl, ?_⟩
  have kp3 : ∀ b o, h1.get? b = some o → (sortedHeap (h1.push (seqObj "list" vs.toArray 0)) h1.objs.size vs out.toArray).get? b = some o := fun b o e => by
    unfold sortedHeap
    have hne : b ≠ h1.objs.size := Nat.ne_of_lt (Heap.lt_size e)
    rw [Heap.get?_update_ne _ _ _ _ hne]
    exact Heap.get?_push_of_some _ (Heap.get?_push_of_some _ ((Heap.get?_update_ne _ _ _ _ hne).trans (kp2 b o e)))
  have nout : NIs h1 (out.map (kof h1)) out := by
    have all : ∀ l : List Value, (∀ u ∈ l, u ∈ vs) → NIs h1 (l.map (kof h1)) l := by
      intro l
      induction l with
      | nil => intro _; exact .nil
      | cons u l ih =>
        intro hm
        refine .cons ?_ (ih fun x hx => hm x (List.mem_cons_of_mem _ hx))
        obtain ⟨i, hi, e⟩ := List.getElem_of_mem (hm u List.mem_cons_self)
        obtain ⟨k, _, nk'⟩ := NIs.get (i := i) nk (by rw [List.getElem?_eq_getElem hi, e])
        rw [kof_eq nk']; exact nk'
    exact all out fun u hu => hb.perm.mem_iff.mp hu
  refine fin _ h1.objs.size out (out.map (kof h1)) hb.perm (nout.at fun b o e _ => kp3 b o e) ?_ ?_ kp3 (Nat.le_refl _) ?_
  · have := hb.perm.map (kof h1)
    rw [nk.kof] at this
    exact this
  · rw [List.pairwise_map]
    exact hs
  · unfold sortedHeap
    refine ⟨_, Heap.get?_update_self _ (Heap.get?_push_of_some _ (Heap.get?_push_of_some _ (Heap.get?_update_self _ hoL rfl))) rfl⟩
end
end Lk
set_option Elab.async false
set_option linter.all false
set_option maxRecDepth 100000
set_option maxHeartbeats 1000000
/-! Lark, part 13: collecting; sorted, list, len of anything; reading dicts. -/
namespace Lk
open PySem PySem.Spec PyProof.Rows L2

section
variable {prog : Program} {w : World} {A : Around} {E : Value → Shared → Prop} {s : Shared}
theorem collect_tup {l : Addr} {vs : List Value} {Q : List Value → Shared → Prop} (hl : s.heap.IsTuple l vs.toArray)
    (h : Q vs { s with heap := (s.heap.push (seqObj "list" #[] 0)).update s.heap.objs.size (Obj.mapSeq (· ++ vs.toArray)) }) (hsz : vs.length ≤ sizeLine) :
    wpAny (model prog w) A (collect (.ref l)) Q E s := by
  obtain ⟨o, ho, hc, n, hd⟩ := id hl
  unfold collect
  refine wpAny_bind (wpAny_runValue (codeAny_builtin entry_proto_collect' ?_))
  show wpAny _ _ (do again (.builtin "list.__iadd__" ⟨[← newList [], .ref l], []⟩)) _ _ s
  refine wpAny_bind (wpAny_newList (wpAny_pure ⟨Code.quiet_builtin _ (by decide +kernel), codeAny_builtin entry_list_iadd' ?_⟩))
  show wpAny _ _ (Builtin.List.listExtendWith (.ref s.heap.objs.size) (.ref l) (.ref s.heap.objs.size)) _ _ { s with heap := s.heap.push (seqObj "list" #[] 0) }
  unfold Builtin.List.listExtendWith
  have ho' : (s.heap.push (seqObj "list" #[] 0)).get? l = some o := Heap.get?_push_of_some _ ho
  refine wpAny_bind (wpAny_typeOf (T := "tuple") ⟨o, ho', hc⟩ ?_)
  have ht : (Value.type "tuple" == Value.type "tuple") = true := by rfl
  rw [if_pos (by rw [ht]; simp)]
  refine wpAny_bind (listItems_at ho' hd ?_)
  refine wpAny_bind (listItems_at (xs := #[]) (n := 0) (Heap.get?_push_size _ rfl) rfl ?_)
  rw [if_neg (by simp)]
  refine wpAny_bind (listUpdate_at (xs := #[]) (n := 0) (Heap.get?_push_size _ rfl) rfl ?_ (Nat.zero_le _) (by show (#[] ++ vs.toArray).size ≤ sizeLine + 1; simp only [Array.size_append, List.size_toArray, List.length_nil]; omega))
  refine wpAny_pure ?_
  show wpAny (model prog w) A (do
      let o ← load s.heap.objs.size
      match o.data with
      | .seq xs _ => pure xs.toList
      | _ => unsupported "internal:collect") Q E { s with heap := (s.heap.push (seqObj "list" #[] 0)).update s.heap.objs.size (Obj.mapSeq (· ++ vs.toArray)) }
  refine wpAny_bind (wpAny_load (get?_update_seq (Heap.get?_push_size _ rfl) _) ?_)
  show wpAny _ _ (pure ((#[] : Array Value) ++ vs.toArray).toList) Q E _
  rw [show ((#[] : Array Value) ++ vs.toArray).toList = vs by simp]
  exact wpAny_pure h
theorem kdl_raw {d : Addr} {es : Array DictEntry} {ep : Nat} (lo : (d == sysModules) = false) : PySem.W.KdlSrc prog w "dict" d d es.size (fun i v => ∃ hi : i < es.size, v = es[i].key) (fun h => h.DictRaw d es ep) where
  type := fun _ hm => hm.typeIs
  there := fun _ hm => let ⟨_, ho, _⟩ := hm; ⟨Heap.lt_size ho, Heap.lt_size ho⟩
  keep := fun _ _ hm hk => hm.at fun o e => hk d (.inl rfl) o e
  notList := by decide
  notTuple := by decide
  hint := fun _ _ _ _ hm hq => PySem.W.kdl_hint_dict hm.typeIs hq
  iter := fun _ s hh hm => ⟨_, _, (fun _ _ hq => wpAny_pyIter_dict_raw lo hm hq), Walks.rawKeys hh _ d (Nat.ne_of_lt (let ⟨_, ho, _⟩ := hm; Heap.lt_size ho)) es ep, ⟨⟨_, Heap.get?_push_size _ rfl, rfl, rfl⟩, hm.at fun o e => Heap.get?_push_of_some _ e⟩⟩
end

section
variable {X : Cx} {T : List Addr} {pins : List (Addr × Obj)} {σ : L2.St} {H : Hp} {s : Shared}
/-- values and data -/
def DU (K : PySem.W.Frag) (H : Hp) (d : D) (u : Value) : Prop := ∃ v, RelV v u ∧ Den K H d v
theorem DU.mono {K : PySem.W.Frag} {H H' : Hp} {d : D} {u : Value} (h : DU K H d u) (e : Ext K H H') : DU K H' d u := let ⟨v, a, b⟩ := h; ⟨v, a, b.mono e⟩
abbrev DUs (K : PySem.W.Frag) (H : Hp) : List D → List Value → Prop := Paired (DU K H)
theorem DUs.of {K : PySem.W.Frag} {H : Hp} : ∀ {ds : List D} {vs : List V} {us : List Value}, DenL K H ds vs → Vals vs us → DUs K H ds us
  | _, _, _, .nil, .nil => .nil
  | _, _, _, .cons a b, .cons r t => .cons ⟨_, r, a⟩ (DUs.of b t)
theorem DUs.back {K : PySem.W.Frag} {H : Hp} {ds : List D} {us : List Value} (h : DUs K H ds us) : ∃ vs, DenL K H ds vs ∧ Vals vs us := by
  induction h with
  | nil => exact ⟨[], .nil, .nil⟩
  | cons r t ih =>
    obtain ⟨vs, a, b⟩ := ih
    obtain ⟨v, r1, r2⟩ := r
    exact ⟨v :: vs, .cons r2 a, .cons r1 b⟩
theorem DUs.perm {K : PySem.W.Frag} {H : Hp} {us us' : List Value} (p : us'.Perm us) : ∀ {ds : List D}, DUs K H ds us → ∃ ds', ds'.Perm ds ∧ DUs K H ds' us' := by
  induction p with
  | nil => intro ds h; exact ⟨ds, .refl _, h⟩
  | cons x p ih =>
    intro ds h
    cases h with
    | cons r t =>
      obtain ⟨ds', q, h'⟩ := ih t
      exact ⟨_, q.cons _, .cons r h'⟩
  | swap x y l =>
    intro ds h
    cases h with
    | cons r t => cases t with
      | cons r2 t2 => exact ⟨_, .swap _ _ _, .cons r2 (.cons r t2)⟩
  | trans p q ih1 ih2 =>
    intro ds h
    obtain ⟨d1, q1, h1⟩ := ih2 h
    obtain ⟨d2, q2, h2⟩ := ih1 h1
    exact ⟨d2, q2.trans q1, h2⟩
theorem DUs.of_get {K : PySem.W.Frag} {H : Hp} : ∀ {ds : List D} {us : List Value}, ds.length = us.length → (∀ (i : Nat) d u, ds[i]? = some d → us[i]? = some u → DU K H d u) → DUs K H ds us
  | [], [], _, _ => .nil
  | [], _ :: _, h, _ => by cases h
  | _ :: _, [], h, _ => by cases h
  | d :: ds, v :: vs, h, k => .cons (k 0 d v rfl rfl) (DUs.of_get (Nat.succ.inj h) fun i a b x y => k (i + 1) a b x y)
/-- a dict as it stands -/
theorem dct_raw (I : Inv X pins σ H s) {a : Addr} {kvs : List (D × D)} (h : DctOk X.prog X.w X.K H a kvs) : ∃ es ep, s.heap.DictRaw a es ep ∧ es.size = kvs.length ∧ kvs.length ≤ sizeLine ∧ (a == sysModules) = false ∧
    ∀ (i : Nat) (hi : i < es.size) (p : D × D), kvs[i]? = some p → DU X.K H p.1 es[i].key ∧ DU X.K H p.2 es[i].val := by
  have sys := h.noSys I
  have gp : ∀ {α β : Type} {R : α → β → Prop} {l : List α} {m : List β}, Paired R l m → ∀ (i : Nat) x, l[i]? = some x → ∃ y, m[i]? = some y ∧ R x y := by
    intro α β R l m hp
    induction hp with
    | nil => intro i x e; simp at e
    | cons r t ih =>
      intro i x e
      cases i with
      | zero => simp at e; subst e; exact ⟨_, rfl, r⟩
      | succ i => simp at e ⊢; exact ih i x e
  rcases h with ⟨vs, e, p⟩ | ⟨_, hz, xs, e, n, p⟩
  · obtain ⟨z, _, ws, kv, dd⟩ := dk_of I.hok e
    obtain ⟨es, ep, hr, hs, hk⟩ := dd.raw
    have l1 : kvs.length = vs.length := Paired.length p
    have l2 : vs.length = ws.length := kv.length
    refine ⟨es, ep, hr, by omega, by omega, sys, fun i hi q hq => ?_⟩
    obtain ⟨y, hy, d1, d2⟩ := gp p i q hq
    obtain ⟨wv, hw, e1, e2⟩ := gp kv i y hy
    obtain ⟨k1, k2⟩ := hk i hi wv.1 wv.2 hw
    refine ⟨⟨_, ?_, d1⟩, ⟨_, by rw [k2]; exact e2, d2⟩⟩
    rw [e1]
    exact keyIs_rel k1
  · obtain ⟨es, ep, hr, hs, hk⟩ := (dct_keyed I e n p).raw
    have l1 := ent_len p
    refine ⟨es, ep, hr, by omega, hz, sys, fun i hi q hq => ?_⟩
    obtain ⟨y, hy, k1, k2, _⟩ := hk i hi
    obtain ⟨y', hy', r1, _, _, w, r2, r3⟩ := gp p i q hq
    rw [hy] at hy'; cases hy'
    exact ⟨⟨_, by rw [k1]; rfl, r1⟩, ⟨w, by rw [k2]; exact r2, r3⟩⟩
/-- what a walk over it meets -/
def walkOf (M : Mm) : D → Option (List D)
  | .tup xs => some xs
  | .rol xs => some xs
  | .ref a => match M a with
    | some (.lst xs) => some xs
    | some (.dct kvs) => some (kvs.map (·.1))
    | _ => none
  | _ => none
theorem walkOf_items {M : Mm} {d : D} {xs : List D} (h : walkOf M d = some xs) : itemsOf M d = some xs ∨ ∃ a kvs, d = .ref a ∧ M a = some (.dct kvs) ∧ xs = kvs.map (·.1) := by
  cases d with
  | tup ys => exact .inl h
  | rol ys => exact .inl h
  | ref a =>
    have h : (match M a with
      | some (.lst xs) => some xs
      | some (.dct kvs) => some (kvs.map (·.1))
      | _ => none) = some xs := h
    split at h
    · rename_i ys e
      cases h
      exact .inl (by simp [itemsOf, lsOf, e])
    · rename_i kvs e
      cases h
      exact .inr ⟨a, kvs, rfl, e, rfl⟩
    · cases h
  | _ => cases h
theorem collect_ok (I : Inv X pins σ H s) {M : Mm} {A : Around} {d : D} {v : V} {u : Value} {ds : List D} {R : List Value → Shared → Prop} {E : Value → Shared → Prop} (hh : A.handled = none) (hM : Mr (wd X T) H M) (hd : Den X.K H d v) (r : RelV v u) (h : walkOf M d = some ds)
    (hR : ∀ us h1 tk, (∀ b o, s.heap.get? b = some o → h1.get? b = some o) → DUs X.K H ds us → us.length ≤ sizeLine → R us { s with heap := h1, toks := tk }) : wpAny (model X.prog X.w) A (collect u) R E s := by
  have kp : ∀ (vs : List Value) b o, s.heap.get? b = some o → ((s.heap.push (seqObj "list" #[] 0)).update s.heap.objs.size (Obj.mapSeq (· ++ vs.toArray))).get? b = some o := fun vs b o e =>
    (Heap.get?_update_other _ _ (Ne.symm (Nat.ne_of_lt (Heap.lt_size e)))).trans (Heap.get?_push_of_some _ e)
  rcases walkOf_items h with h | ⟨a, kvs, rfl, e, rfl⟩
  · obtain ⟨a, vs, rfl, sq, l⟩ := itemsOf_ok hM h hd
    cases r
    rcases sq with sq | sq
    · obtain ⟨its, rv, p, hz⟩ := I.list sq
      exact collect_list p.isList (hR its _ s.toks (kp its) (DUs.of l rv) (by rw [← rv.length]; exact hz)) (by rw [← rv.length]; exact hz)
    · obtain ⟨its, rv, p, hz⟩ := I.tuple sq
      exact collect_tup p (hR its _ s.toks (kp its) (DUs.of l rv) (by rw [← rv.length]; exact hz)) (by rw [← rv.length]; exact hz)
  · cases hd
    cases r
    obtain ⟨es, ep, hr, hs, hz, sys, hk⟩ := dct_raw I (hM.obj _ _ e)
    refine PySem.W.kdu_collect (kdl_raw sys) hh hr (by omega) fun h' tk acc hkeep hacc => hR acc.toList h' tk hkeep ?_ (by rw [Array.length_toList, hacc.1]; omega)
    refine DUs.of_get (by have h9 := hacc.1; have h8 : acc.toList.length = acc.size := Array.length_toList; rw [List.length_map]; omega) fun i x u e1 e2 => ?_
    obtain ⟨hi, e3⟩ := hacc.2 i u (by rw [← Array.getElem?_toList]; exact e2)
    rw [List.getElem?_map] at e1
    cases e4 : kvs[i]? with
    | none => rw [e4] at e1; cases e1
    | some p =>
      rw [e4] at e1
      cases e1
      rw [e3]
      exact (hk i hi p e4).1
end
/-- x before y -/
def ltD (x y : D) : Bool := match keyOf x, keyOf y with
  | some a, some b => ltK a b
  | _, _ => false
def bSorted : DL := fun ds M q => match ds with
  | [x] => ∃ xs ks, walkOf M x = some xs ∧ keysOf xs = some ks ∧ AllOk ks ∧ ∀ p ys, M p = none → ys.Perm xs → ys.Pairwise (fun a b => ltD b a = false) → q (.ref p) (mset M p (.lst ys))
  | _ => False
def bList2 : DL := fun ds M q => match ds with
  | [d] => ∃ xs, walkOf M d = some xs ∧ ∀ p, M p = none → q (.ref p) (mset M p (.lst xs))
  | _ => False
theorem keysOf_get : ∀ {ds : List D} {ks : List NestedKey}, keysOf ds = some ks → ds.length = ks.length ∧ ∀ (i : Nat) d, ds[i]? = some d → ∃ k, ks[i]? = some k ∧ keyOf d = some k
  | [], ks, h => by cases h; exact ⟨rfl, fun i d e => by simp at e⟩
  | d :: ds, ks, h => by
    have h' : (match keyOf d, keysOf ds with | some k, some ks => some (k :: ks) | _, _ => none) = some ks := h
    cases q : keyOf d with
    | none => rw [q] at h'; cases h'
    | some k =>
      cases q2 : keysOf ds with
      | none => rw [q, q2] at h'; cases h'
      | some kr =>
        rw [q, q2] at h'
        cases h'
        obtain ⟨l, g⟩ := keysOf_get q2
        refine ⟨by simp [l], fun i x e => ?_⟩
        cases i with
        | zero => simp at e; subst e; exact ⟨k, rfl, q⟩
        | succ i => simp at e ⊢; exact g i x e
theorem keysOf_mem {ds : List D} {ks : List NestedKey} (h : keysOf ds = some ks) {d : D} (hd : d ∈ ds) : ∃ k, keyOf d = some k := by
  obtain ⟨i, hi, e⟩ := List.getElem_of_mem hd
  obtain ⟨k, _, r⟩ := (keysOf_get h).2 i d (by rw [List.getElem?_eq_getElem hi, e])
  exact ⟨k, r⟩
section
variable {X : Cx} {T : List Addr}
theorem DUs.nis {pins : List (Addr × Obj)} {σ : L2.St} {H : Hp} {s : Shared} (I : Inv X pins σ H s) {ds : List D} {us : List Value} (h : DUs X.K H ds us) {ks : List NestedKey} (hk : keysOf ds = some ks) : NIs s.heap ks us := by
  obtain ⟨vs, a, b⟩ := h.back
  exact DenL.ni I a hk b
theorem nis_keys {h : Heap} : ∀ {ds : List D} {us : List Value} {ks : List NestedKey}, (∀ d ∈ ds, ∃ k, keyOf d = some k) → Paired (fun d u => ∀ k, keyOf d = some k → NI h k u) ds us → NIs h ks us → keysOf ds = some ks
  | [], _, _, _, .nil, .nil => rfl
  | d :: ds, _, _, hm, .cons r t, .cons a b => by
    obtain ⟨k, hk⟩ := hm d List.mem_cons_self
    have e := NI.uniq (r k hk) a
    have ih := nis_keys (fun x hx => hm x (List.mem_cons_of_mem _ hx)) t b
    show (match keyOf d, keysOf ds with | some k, some ks => some (k :: ks) | _, _ => none) = _
    rw [hk, ih, e]
theorem cl_sorted (hu : X.A.units + 80 < cLine) (hc : X.calm = true) : CL' X T (.builtin "sorted") bSorted := by
  intro pins s σ H xs us Q I r ⟨ds, M, q, hd, hM, z, k⟩
  match ds, hd, z with
  | [x], .cons h1 .nil, ⟨ys, ks, hw, hk, hok, z⟩ =>
    obtain ⟨u, rfl, ru⟩ := vals1 r
    have fin : ∀ (u : Value), RelV _ u → argsOk "sorted" ⟨[u], []⟩ → wpAny (model X.prog X.w) X.A (call (.builtin "sorted") [u]) (EP X pins σ Q) X.xe s := fun u ru args => by
      refine sorted_keys (by omega) hok args (collect_ok (T := T) I (show X.A.in1.handled = none from I.ok.hd hc) hM h1 ru hw fun us h1' tk kp du hz => ⟨h1', tk, rfl, kp, (du.nis I hk).at fun b o e _ => kp b o e, hz, fun h' d out ks' pm nk pk sk kp2 hd hn => ?_⟩)
      have I1 : Inv X pins σ H { s with heap := h1', toks := tk } := I.kept kp
      have kp3 : ∀ b o, s.heap.get? b = some o → h'.get? b = some o := fun b o e => kp2 b o (kp b o e)
      obtain ⟨ds', p1, du'⟩ := DUs.perm pm du
      have hn' := I1.hok.fresh hd
      obtain ⟨vs', dl, rv⟩ := du'.back
      have hlen : vs'.length ≤ sizeLine := by rw [rv.length, pm.length_eq]; exact hz
      obtain ⟨n, hn⟩ := hn
      have e1 := Ext.upd_new (K := X.K) (o := .lst vs') hn'
      refine ⟨.ref d, upd H d (.lst vs'), I1.laid (t' := tk) kp2 hd ⟨hlen, out, n, rv, hn⟩, rfl, k _ _ _ _ e1 (.ref d) (hM.new (o := .lst ds') hn' ⟨vs', upd_same, dl.mono e1⟩) (z d ds' (hM.free hn') p1 ?_)⟩
      -- sorted
      have mem : ∀ x ∈ ds', ∃ k, keyOf x = some k := fun x hx => keysOf_mem hk (p1.mem_iff.mp hx)
      have I2 := I.kept (h' := h') (t' := tk) kp3
      have hk' : keysOf ds' = some ks' := nis_keys mem (L2.Paired.mapP du' fun x u ⟨v, a, b⟩ k hk => Den.ni I2 b hk a) nk
      have gen : ∀ {zs : List D} {ls : List NestedKey}, keysOf zs = some ls → ls.Pairwise (fun a b => ltK b a = false) → zs.Pairwise (fun a b => ltD b a = false) := by
        intro zs ls h hp
        rw [List.pairwise_iff_getElem] at hp ⊢
        obtain ⟨l, g⟩ := keysOf_get h
        intro i j hi hj hij
        obtain ⟨k1, e1, f1⟩ := g i _ (List.getElem?_eq_getElem hi)
        obtain ⟨k2, e2, f2⟩ := g j _ (List.getElem?_eq_getElem hj)
        have hi' : i < ls.length := by omega
        have hj' : j < ls.length := by omega
        have := hp i j hi' hj' hij
        rw [List.getElem?_eq_getElem hi'] at e1
        rw [List.getElem?_eq_getElem hj'] at e2
        cases e1; cases e2
        unfold ltD
        rw [f1, f2]
        exact this
      exact gen hk' sk
    rcases walkOf_items hw with hw' | ⟨a, kvs, rfl, e, rfl⟩
    · obtain ⟨a, vs, rfl, sq, l⟩ := itemsOf_ok hM hw' h1
      cases ru
      exact fin _ rfl (args_sorted1 _)
    · cases h1
      cases ru
      exact fin _ rfl (args_sorted1 _)
end
end Lk
set_option Elab.async false
set_option linter.all false
set_option maxRecDepth 100000
set_option maxHeartbeats 1000000
/-! Lark, part 14: len and list of anything, dicts read, repr. -/
namespace Lk
open PySem PySem.Spec PyProof.Rows L2

def lenOf2 (M : Mm) : D → Option Nat
  | .str z => some z.length
  | d => (walkOf M d).map List.length
def bLen2 : DL := fun ds M q => match ds with
  | [d] => ∃ n, lenOf2 M d = some n ∧ strOk d ∧ q (.int n) M
  | _ => False
section
variable {X : Cx} {T : List Addr}
theorem cl_list2 (hc : X.calm = true) : CL' X T (.type "list") bList2 := by
  intro pins s σ H xs us Q I r ⟨ds, M, q, hd, hM, z, k⟩
  match ds, hd, z with
  | [d], .cons h1 .nil, ⟨ys, hw, z⟩ =>
    rcases walkOf_items hw with hw' | ⟨a, kvs, rfl, e, rfl⟩
    · exact cl_list (T := T) pins s σ H _ us Q I r ⟨[d], M, q, .cons h1 .nil, hM, ⟨ys, hw', z⟩, k⟩
    · cases h1
      obtain ⟨u, rfl, ru⟩ := vals1 r
      cases ru
      obtain ⟨es, ep, hr, hs, hz, sys, hk⟩ := dct_raw I (hM.obj _ _ e)
      refine PySem.W.kdl_call (kdl_raw sys) (I.ok.hd hc) hr (by omega) fun h' tk acc' c' hkeep hS hacc => ?_
      have du : DUs X.K H (kvs.map (·.1)) acc'.toList := by
        refine DUs.of_get (by have h9 := hacc.1; have h8 : acc'.toList.length = acc'.size := Array.length_toList; rw [List.length_map]; omega) fun i x u e1 e2 => ?_
        obtain ⟨hi, e3⟩ := hacc.2 i u (by rw [← Array.getElem?_toList]; exact e2)
        rw [List.getElem?_map] at e1
        cases e4 : kvs[i]? with
        | none => rw [e4] at e1; cases e1
        | some p =>
          rw [e4] at e1
          cases e1
          rw [e3]
          exact (hk i hi p e4).1
      obtain ⟨vs, dl, rv⟩ := du.back
      have hn := I.hok.fresh (Nat.le_refl s.heap.objs.size)
      have e1 := Ext.upd_new (K := X.K) (o := .lst vs) hn
      refine ⟨.ref s.heap.objs.size, upd H s.heap.objs.size (.lst vs), I.laid (t' := tk) hkeep (Nat.le_refl _) ⟨?_, acc'.toList, c', rv, by rw [Array.toArray_toList]; exact hS⟩, rfl, k _ _ _ _ e1 (.ref _) (hM.new (o := .lst (kvs.map (·.1))) hn ⟨vs, upd_same, dl.mono e1⟩) (z _ (hM.free hn))⟩
      have := dl.length
      rw [List.length_map] at this
      omega
theorem lenOf2_cases {M : Mm} {d : D} {n : Nat} (h : lenOf2 M d = some n) : (∃ z, d = .str z ∧ n = z.length) ∨ ∃ xs, walkOf M d = some xs ∧ xs.length = n := by
  have gen : ∀ d : D, (walkOf M d).map List.length = some n → ∃ xs, walkOf M d = some xs ∧ xs.length = n := fun d h => by
    cases e : walkOf M d with
    | none => rw [e] at h; cases h
    | some xs => rw [e] at h; exact ⟨xs, rfl, Option.some.inj h⟩
  cases d with
  | str z => cases h; exact .inl ⟨z, rfl, rfl⟩
  | non => exact .inr (gen .non h)
  | bl b => exact .inr (gen (.bl b) h)
  | int i => exact .inr (gen (.int i) h)
  | tup xs => exact .inr (gen (.tup xs) h)
  | ref a => exact .inr (gen (.ref a) h)
  | ty m => exact .inr (gen (.ty m) h)
  | rol xs => exact .inr (gen (.rol xs) h)
theorem lenOf_items {M : Mm} {d : D} {xs : List D} (h : itemsOf M d = some xs) : lenOf M d = some xs.length := by
  have e : (itemsOf M d).map List.length = some xs.length := by rw [h]; rfl
  cases d <;> first
    | exact e
    | cases h
theorem cl_len2 : CL' X T (.builtin "len") bLen2 := by
  intro pins s σ H xs us Q I r ⟨ds, M, q, hd, hM, z, k⟩
  match ds, hd, z with
  | [d], .cons h1 .nil, ⟨n, hl, hs, z⟩ =>
    rcases lenOf2_cases hl with ⟨y, rfl, rfl⟩ | ⟨xs, hw, hn⟩
    · exact cl_len (T := T) pins s σ H _ us Q I r ⟨[.str y], M, q, .cons h1 .nil, hM, ⟨_, rfl, hs, z⟩, k⟩
    · rcases walkOf_items hw with hw' | ⟨a, kvs, rfl, e, rfl⟩
      · exact cl_len (T := T) pins s σ H _ us Q I r ⟨[d], M, q, .cons h1 .nil, hM, ⟨n, by rw [lenOf_items hw', hn], hs, z⟩, k⟩
      · cases h1
        obtain ⟨u, rfl, ru⟩ := vals1 r
        cases ru
        rw [List.length_map] at hn
        rcases hM.obj _ _ e with ⟨vs, e1, p⟩ | ⟨sys, hz, ys, e1, nd, p⟩
        · refine call_lenD pins s σ H _ _ Q I r ⟨a, vs, rfl, e1, ?_⟩
          have l : kvs.length = vs.length := Paired.length p
          rw [← l, hn]
          exact k _ _ _ _ .refl (.int _) hM z
        · have l := ent_len p
          refine call_len_dictH sys (dct_keyed I e1 nd p) (by rw [← l]; rw [sizeLine_eq] at hz; omega) ?_
          rw [← l, hn]
          exact ⟨.int (n : Int), H, I.tok _, ⟨_, rfl⟩, k _ _ _ _ .refl (.int _) hM z⟩
end
/-! ### reading a dict, in -/
/-- d[k], k there -/
def oIx2 : D2 := fun x y M q => match x with
  | .str z => ∃ i c, y = .int i ∧ z.length ≤ sizeLine ∧ atI z.cps.toList i = some c ∧ q (.str ⟨#[c]⟩) M
  | .ref a => match M a with
    | some (.lst xs) => ∃ i d, y = .int i ∧ atI xs i = some d ∧ q d M
    | some (.dct kvs) => ∃ v, KeyOk kvs y ∧ dGet kvs y = some v ∧ q v M
    | _ => False
  | .tup xs => ∃ i d, y = .int i ∧ atI xs i = some d ∧ q d M
  | .rol xs => ∃ i d, y = .int i ∧ atI xs i = some d ∧ q d M
  | _ => False
section
variable {X : Cx} {T : List Addr} {pins : List (Addr × Obj)} {σ : L2.St} {H : Hp} {s : Shared}
theorem dct_get (I : Inv X pins σ H s) {A : Around} {E Q : Value → Shared → Prop} {a : Addr} {kvs : List (D × D)} {d v : D} {y : V} {u : Value} (hu : A.units + 9 < cLine) (h : DctOk X.prog X.w X.K H a kvs) (hk : KeyOk kvs d) (hd : Den X.K H d y) (ry : RelV y u) (hg : dGet kvs d = some v)
    (hQ : ∀ w x s', Inv X pins σ H s' → RelV w x → Den X.K H v w → Q x s') : wpAny (model X.prog X.w) A (getItem (.ref a) u) Q E s := by
  obtain ⟨⟨nk, hk1, h8⟩, hkind⟩ := hk
  rcases h with ⟨vs, e, p⟩ | ⟨_, _, xs, e, n, p⟩
  · rcases hkind with ⟨ht, hall⟩ | ⟨hs, _⟩
    · have : kvs = [] := by
        cases p with
        | nil => rfl
        | @cons q1 y1 ps ys r t =>
          obtain ⟨c, hc⟩ := den_tup_ref r.1 (hall q1 List.mem_cons_self)
          obtain ⟨yk, yv⟩ := y1
          cases yk <;> cases hc
      subst this; cases hg
    · obtain ⟨k, rfl, hk2⟩ := den_sim hd hs
      obtain ⟨w, hw, dw⟩ := (sim_get p hk2).1 v hg
      refine d_getItem (v := w) (by omega) I ?_ ry fun x s' I' rx => hQ w x s' I' rx dw
      rw [← hw]
      exact DGet.k e
  · rcases hkind with ⟨ht, _⟩ | ⟨hs, hall⟩
    · obtain ⟨b, rfl⟩ := den_tup_ref hd ht
      cases ry
      obtain ⟨b2, x, w, h1, h2, h3⟩ := ent_get p hk1 hg
      refine wpAny_getItem_heap (show A.in1.units + 8 < cLine by show A.units + 1 + 8 < _; omega) (show (nestedKind X.prog X.w).is s.heap nk b from ⟨Den.nested I hd hk1 rfl, h8⟩) (dct_keyed I e n p) h1 ?_
      exact hQ w x _ (I.tok _) h2 h3
    · have : kvs = [] := by
        cases p with
        | nil => rfl
        | @cons q1 y1 ps ys r t =>
          obtain ⟨k1, e2, _⟩ := den_sim r.1 (hall q1 List.mem_cons_self)
          cases k1 <;> cases e2
      subst this; cases hg
theorem de_ix2 {ex : EK} {a b : Expr} {ra rb : DE} {pos : Pos} (hu : X.A.units + 9 < cLine) (ha : EP' X T ex a ra) (hb : EP' X T ex b rb) (hs : PlainIx b) : EP' X T ex (.Subscript a b pos) (rBin oIx2 ra rb) := by
  have hr : IxR X (r2D (wd X T) oIx2) := by
    intro value slice pins s σ H x y v u Q I rx ry ⟨d, e, M, q, hd, he, hM, z, k⟩ hsub
    have seq : ∀ {xs : List D}, itemsOf M d = some xs → (∃ i d, e = .int i ∧ atI xs i = some d ∧ q d M) → wpAny (model X.prog X.w) X.A (subscriptTail value slice v u) (EP X pins σ Q) X.xe s := fun {xs} h1 ⟨i, d1, ei, h2, zq⟩ => by
      subst ei; cases he
      obtain ⟨p, vs, rfl, sq, l⟩ := itemsOf_ok hM h1 hd
      obtain ⟨w, h3, d2⟩ := atI_den l h2
      refine ix_seq value slice pins s σ H _ _ v u Q I rx ry ?_ hsub
      rcases sq with sq | sq
      · exact .inl ⟨p, vs, i, w, rfl, rfl, sq, h3, k _ _ _ _ .refl d2 hM zq⟩
      · exact .inr (.inl ⟨p, vs, i, w, rfl, rfl, sq, h3, k _ _ _ _ .refl d2 hM zq⟩)
    cases d with
    | str zz =>
      obtain ⟨i, c, rfl, hl, h2, z⟩ := z
      cases hd; cases he
      exact ix_seq value slice pins s σ H _ _ v u Q I rx ry (.inr (.inr ⟨zz, i, c, rfl, rfl, hl, h2, k _ _ _ _ .refl (.str _) hM z⟩)) hsub
    | tup xs => exact seq (xs := xs) rfl z
    | rol xs => exact seq (xs := xs) rfl z
    | ref a =>
      have z : (match M a with
        | some (.lst xs) => ∃ i d, e = .int i ∧ atI xs i = some d ∧ q d M
        | some (.dct kvs) => ∃ v, KeyOk kvs e ∧ dGet kvs e = some v ∧ q v M
        | _ => False) := z
      split at z
      · rename_i xs e1
        exact seq (xs := xs) (by simp [itemsOf, lsOf, e1]) z
      · rename_i kvs e1
        obtain ⟨w, hk, hg, z⟩ := z
        cases hd
        cases rx
        have dk := hM.obj _ _ e1
        obtain ⟨es, ep, hr, _⟩ := dct_raw I dk
        exact tail_any hr.typeIs slot_dict_getitem.lookup (dct_get I hu dk hk he ry hg fun w' x s' I' rx' dw => ⟨w', H, I', rx', k _ _ _ _ .refl dw hM z⟩) hsub
      · exact z.elim
    | _ => exact z.elim
  exact PEw (pe_ix hr ha hb hs) fun σ H Q h => tD_bin (o := oIx2) σ H Q (fun _ _ _ _ z => z) h
end
end Lk
set_option Elab.async false
set_option linter.all false
set_option maxRecDepth 100000
set_option maxHeartbeats 1000000
/-! Lark, part 15: in; repr; plain data. -/
namespace Lk
open PySem PySem.Spec PyProof.Rows L2

/-! ### plain data: None, ints, bools, tuples of such -/
mutual
def isPl : D → Bool
  | .non => true
  | .bl _ => true
  | .int _ => true
  | .tup xs => isPls xs
  | _ => false
def isPls : List D → Bool
  | [] => true
  | x :: xs => isPl x && isPls xs
end
mutual
def toPy : D → PyData
  | .non => .none
  | .bl b => .bool b
  | .int i => .int i
  | .str x => .str x
  | .tup xs => .tuple (toPys xs)
  | _ => .none
def toPys : List D → List PyData
  | [] => []
  | x :: xs => toPy x :: toPys xs
end
mutual
def dpD : D → Nat
  | .tup xs => dpDs xs + 1
  | _ => 0
def dpDs : List D → Nat
  | [] => 0
  | x :: xs => max (dpD x) (dpDs xs)
end
mutual
/-- == of plain data -/
def eqD : D → D → Bool
  | .non, .non => true
  | .bl a, .bl b => a == b
  | .bl a, .int j => (if a then 1 else 0) == j
  | .int i, .bl b => i == (if b then 1 else 0)
  | .int i, .int j => i == j
  | .str x, .str y => x == y
  | .tup xs, .tup ys => eqDs xs ys
  | _, _ => false
def eqDs : List D → List D → Bool
  | [], [] => true
  | x :: xs, y :: ys => eqD x y && eqDs xs ys
  | _, _ => false
end
mutual
theorem pd_pl (M : Mm) : ∀ {d : D}, isPl d = true → PD M d (toPy d)
  | .non, _ => .non
  | .bl b, _ => .bl b
  | .int i, _ => .int i
  | .str x, _ => .str x
  | .tup xs, h => .tup (pds_pl M (d := xs) h)
  | .ref a, h => by cases h
  | .ty n, h => by cases h
  | .rol xs, h => by cases h
theorem pds_pl (M : Mm) : ∀ {d : List D}, isPls d = true → PDL M d (toPys d)
  | [], _ => .nil
  | x :: xs, h => by
    rw [isPls, Bool.and_eq_true] at h
    exact .cons (pd_pl M h.1) (pds_pl M h.2)
end
mutual
theorem depth_py : ∀ d : D, (toPy d).depth ≤ dpD d
  | .non => Nat.le_refl _
  | .bl b => Nat.le_refl _
  | .int i => Nat.le_refl _
  | .str x => Nat.le_refl _
  | .tup xs => by rw [toPy, dpD, PyData.depth]; exact Nat.succ_le_succ (depth_pys xs)
  | .ref a => Nat.le_refl _
  | .ty n => Nat.le_refl _
  | .rol xs => Nat.le_refl _
theorem depth_pys : ∀ d : List D, PyData.depthAll (toPys d) ≤ dpDs d
  | [] => Nat.le_refl _
  | x :: xs => by
    rw [toPys, dpDs, PyData.depthAll]
    have h1 := depth_py x
    have h2 := depth_pys xs
    omega
end
mutual
theorem can_pl : ∀ {d : D}, isPl d = true → (toPy d).canLay0 = true
  | .non, _ => by rw [toPy, PyData.canLay0]
  | .bl b, _ => by rw [toPy, PyData.canLay0]
  | .int i, _ => by rw [toPy, PyData.canLay0]
  | .str x, h => by cases h
  | .tup xs, h => by rw [toPy, PyData.canLay0]; exact cans_pl (d := xs) h
  | .ref a, h => by cases h
  | .ty n, h => by cases h
  | .rol xs, h => by cases h
theorem cans_pl : ∀ {d : List D}, isPls d = true → PyData.canLayAll0 (toPys d) = true
  | [], _ => by rw [toPys, PyData.canLayAll0]
  | x :: xs, h => by
    rw [isPls, Bool.and_eq_true] at h
    rw [toPys, PyData.canLayAll0, can_pl h.1, cans_pl h.2]; rfl
end
theorem shaped_pl {d : D} (h : isPl d = true) (hd : dpD d ≤ 64) : SeqAt.shaped (toPy d) = true := by
  unfold SeqAt.shaped
  rw [can_pl h, Bool.true_and]
  have := depth_py d
  exact decide_eq_true (by omega)
mutual
theorem eqv_py : ∀ {d e : D}, isPl d = true → isPl e = true → PyData.eqv (toPy d) (toPy e) = eqD d e
  | .non, .non, _, _ => rfl
  | .non, .bl _, _, _ => rfl
  | .non, .int _, _, _ => rfl
  | .non, .tup _, _, _ => rfl
  | .bl _, .non, _, _ => rfl
  | .bl _, .bl _, _, _ => rfl
  | .bl _, .int _, _, _ => rfl
  | .bl _, .tup _, _, _ => rfl
  | .int _, .non, _, _ => rfl
  | .int _, .bl _, _, _ => rfl
  | .int _, .int _, _, _ => rfl
  | .int _, .tup _, _, _ => rfl
  | .tup _, .non, _, _ => rfl
  | .tup _, .bl _, _, _ => rfl
  | .tup _, .int _, _, _ => rfl
  | .tup xs, .tup ys, h, k => by rw [toPy, toPy, PyData.eqv, eqD]; exact eqvs_py (d := xs) (e := ys) h k
  | .str _, _, h, _ => by cases h
  | .ref _, _, h, _ => by cases h
  | .ty _, _, h, _ => by cases h
  | .rol _, _, h, _ => by cases h
  | _, .str _, _, h => by cases h
  | _, .ref _, _, h => by cases h
  | _, .ty _, _, h => by cases h
  | _, .rol _, _, h => by cases h
theorem eqvs_py : ∀ {d e : List D}, isPls d = true → isPls e = true → PyData.eqvAll (toPys d) (toPys e) = eqDs d e
  | [], [], _, _ => rfl
  | [], _ :: _, _, _ => rfl
  | _ :: _, [], _, _ => rfl
  | x :: xs, y :: ys, h, k => by
    rw [isPls, Bool.and_eq_true] at h k
    rw [toPys, toPys, PyData.eqvAll, eqDs, eqv_py h.1 k.1, eqvs_py h.2 k.2]
end
/-! without bools: == is = -/
mutual
def noBl : D → Bool
  | .non => true
  | .int _ => true
  | .tup xs => noBls xs
  | _ => false
def noBls : List D → Bool
  | [] => true
  | x :: xs => noBl x && noBls xs
end
mutual
theorem noBl_pl : ∀ {d : D}, noBl d = true → isPl d = true
  | .non, _ => rfl
  | .int _, _ => rfl
  | .tup xs, h => noBls_pl (d := xs) h
  | .bl _, h => by cases h
  | .str _, h => by cases h
  | .ref _, h => by cases h
  | .ty _, h => by cases h
  | .rol _, h => by cases h
theorem noBls_pl : ∀ {d : List D}, noBls d = true → isPls d = true
  | [], _ => rfl
  | x :: xs, h => by
    rw [noBls, Bool.and_eq_true] at h
    rw [isPls, noBl_pl h.1, noBls_pl h.2]; rfl
end
mutual
theorem eqD_iff : ∀ {d e : D}, noBl d = true → noBl e = true → (eqD d e = true ↔ d = e)
  | .non, .non, _, _ => by simp [eqD]
  | .non, .int _, _, _ => by simp [eqD]
  | .non, .tup _, _, _ => by simp [eqD]
  | .int _, .non, _, _ => by simp [eqD]
  | .int i, .int j, _, _ => by simp [eqD]
  | .int _, .tup _, _, _ => by simp [eqD]
  | .tup _, .non, _, _ => by simp [eqD]
  | .tup _, .int _, _, _ => by simp [eqD]
  | .tup xs, .tup ys, h, k => by
    rw [eqD, eqDs_iff (d := xs) (e := ys) h k]
    simp
  | .bl _, _, h, _ => by cases h
  | .str _, _, h, _ => by cases h
  | .ref _, _, h, _ => by cases h
  | .ty _, _, h, _ => by cases h
  | .rol _, _, h, _ => by cases h
  | _, .bl _, _, h => by cases h
  | _, .str _, _, h => by cases h
  | _, .ref _, _, h => by cases h
  | _, .ty _, _, h => by cases h
  | _, .rol _, _, h => by cases h
theorem eqDs_iff : ∀ {d e : List D}, noBls d = true → noBls e = true → (eqDs d e = true ↔ d = e)
  | [], [], _, _ => by simp [eqDs]
  | [], _ :: _, _, _ => by simp [eqDs]
  | _ :: _, [], _, _ => by simp [eqDs]
  | x :: xs, y :: ys, h, k => by
    rw [noBls, Bool.and_eq_true] at h k
    rw [eqDs, Bool.and_eq_true, eqD_iff h.1 k.1, eqDs_iff h.2 k.2]
    simp
end
/-! ### in -/
def oIn2 (neg : Bool) : D2 := fun x y M q => (∃ ys d ds, itemsOf M y = some ys ∧ PD M x d ∧ PDL M ys ds ∧ SeqAt.shaped d = true ∧ PyData.canLayAll0 ds = true ∧ q (.bl (if neg then !ds.any fun z => PyData.eqv z d else ds.any fun z => PyData.eqv z d)) M) ∨
  (∃ a kvs, y = .ref a ∧ M a = some (.dct kvs) ∧ KeyOk kvs x ∧ q (.bl (if neg then !(dGet kvs x).isSome else (dGet kvs x).isSome)) M)
theorem PDL.rd {M : Mm} {d : D} {ys : List D} {ds : List PyData} (h : itemsOf M d = some ys) (l : PDL M ys ds) : PD M d (.tuple ds) ∨ PD M d (.list ds) := by
  cases d with
  | tup xs => cases h; exact .inl (.tup l)
  | rol xs => cases h; exact .inr (.rol l)
  | ref a =>
    have h : (match M a with
      | some (.lst xs) => some xs
      | _ => none) = some ys := h
    split at h
    · rename_i xs e
      cases h
      exact .inr (.lst e l)
    · cases h
  | _ => cases h
section
variable {X : Cx} {T : List Addr} {pins : List (Addr × Obj)} {σ : L2.St} {H : Hp} {s : Shared}
theorem dct_in (I : Inv X pins σ H s) {A : Around} {E : Value → Shared → Prop} {a : Addr} {kvs : List (D × D)} {d : D} {y : V} {u : Value} {neg : Bool} (hu : A.units + 9 < cLine) (h : DctOk X.prog X.w X.K H a kvs) (hk : KeyOk kvs d) (hd : Den X.K H d y) (ry : RelV y u) {Q : Value → Shared → Prop}
    (hQ : ∀ s', Inv X pins σ H s' → Q (.bool (if neg then !(dGet kvs d).isSome else (dGet kvs d).isSome)) s') : wpAny (model X.prog X.w) A (compareOp (if neg then .NotIn else .In) u (.ref a)) Q E s := by
  obtain ⟨⟨nk, hk1, h8⟩, hkind⟩ := hk
  have sys := h.noSys I
  have tupc : ∀ (b : Addr), u = .ref b → Den X.K H d (.ref b) → ∀ kv : List (NestedKey × Value), s.heap.DictKeyed (nestedKind X.prog X.w) a kv → (valueAt kv nk).isSome = (dGet kvs d).isSome → wpAny (model X.prog X.w) A (compareOp (if neg then .NotIn else .In) u (.ref a)) Q E s := fun b eu hb kv dd e => by
    subst eu
    have key : (nestedKind X.prog X.w).is s.heap nk b := ⟨Den.nested I hb hk1 rfl, h8⟩
    cases neg with
    | false => exact in_keyed (show A.in1.units + 8 < cLine by show A.units + 1 + 8 < _; omega) key sys dd (by rw [e]; exact hQ _ (I.tok _))
    | true => exact notIn_keyed (show A.in1.units + 8 < cLine by show A.units + 1 + 8 < _; omega) key sys dd (by rw [e]; exact hQ _ (I.tok _))
  rcases h with ⟨vs, e, p⟩ | ⟨_, _, xs, e, n, p⟩
  · rcases hkind with ⟨ht, hall⟩ | ⟨hs, _⟩
    · obtain ⟨b, rfl⟩ := den_tup_ref hd ht
      cases ry
      have hnil : kvs = [] ∧ vs = [] := by
        cases p with
        | nil => exact ⟨rfl, rfl⟩
        | @cons q1 y1 ps ys r t =>
          obtain ⟨c, hc⟩ := den_tup_ref r.1 (hall q1 List.mem_cons_self)
          obtain ⟨yk, yv⟩ := y1
          cases yk <;> cases hc
      obtain ⟨rfl, rfl⟩ := hnil
      obtain ⟨_, _, ws, kv, o, es, ep, e1, ex, hd', _, hp, _⟩ := (show ObjOk X.prog X.w H s.heap a (.dK []) from I.hok a _ e)
      cases kv
      have hes : es.toList = [] := by cases h9 : es.toList with
        | nil => rfl
        | cons z zs => rw [h9] at hp; cases hp
      exact tupc b rfl hd [] ⟨[], ⟨o, es, ep, e1, ex, hd', by rw [hes]; rfl, by simp, List.nodup_nil⟩, rfl⟩ rfl
    · obtain ⟨k, rfl, hk2⟩ := den_sim hd hs
      obtain ⟨g1, g2⟩ := sim_get p hk2
      have ee : (valV vs k).isSome = (dGet kvs d).isSome := by
        cases q : dGet kvs d with
        | none => rw [g2 q]; rfl
        | some x => obtain ⟨y, hy, _⟩ := g1 x q; rw [hy]; rfl
      cases neg with
      | false => exact d_in (by omega) I (DGet.k e) ry fun s' I' => by rw [ee]; exact hQ s' I'
      | true => exact d_notIn (by omega) I (DGet.k e) ry fun s' I' => by rw [ee]; exact hQ s' I'
  · rcases hkind with ⟨ht, _⟩ | ⟨hs, hall⟩
    · obtain ⟨b, rfl⟩ := den_tup_ref hd ht
      cases ry
      refine tupc b rfl hd _ ⟨xs, dct_keyed I e n p, rfl⟩ ?_
      rw [valueAt_pairsH, Option.isSome_map]
      have g := ent_any p hk1
      rw [← g]
      unfold dGet
      rw [Option.isSome_map]
      have : ∀ l : List (D × D), (l.any fun p => sameK p.1 d) = (l.find? fun p => sameK p.1 d).isSome := fun l => by
        induction l with
        | nil => rfl
        | cons q l ih => rw [List.any_cons, List.find?_cons, ih]; cases sameK q.1 d <;> rfl
      exact this kvs
    · have hnil : kvs = [] ∧ xs = [] := by
        cases p with
        | nil => exact ⟨rfl, rfl⟩
        | @cons q1 y1 ps ys r t =>
          obtain ⟨k1, e2, _⟩ := den_sim r.1 (hall q1 List.mem_cons_self)
          cases k1 <;> cases e2
      obtain ⟨rfl, rfl⟩ := hnil
      obtain ⟨k, rfl, hk2⟩ := den_sim hd hs
      obtain ⟨⟨ob, es, ep, e2, ex, hd2, he⟩, _, _⟩ := I.hok a _ e
      have hes : es = #[] := by
        have := congrArg List.length he
        simp at this
        exact this
      subst hes
      have dd : s.heap.DictOf (mixKind X.prog X.w) a [] := ⟨ob, #[], ep, e2, ex, hd2, fun _ h => by simp at h, .nil, List.nodup_nil⟩
      have hg : (dGet ([] : List (D × D)) d).isSome = false := rfl
      rw [hg] at hQ
      cases neg with
      | false => exact wpAny_in_of (kV_is ry) sys dd.mapOf (hQ _ (I.tok _))
      | true => exact wpAny_notIn_of (kV_is ry) sys dd.mapOf (hQ _ (I.tok _))
theorem opd_in (hu : X.A.units + 65 < cLine) (neg : Bool) : OP' X T (compareOp (if neg then .NotIn else .In)) (oIn2 neg) := by
  intro pins s σ H x y v u Q I rx ry ⟨d, e, M, q, hd, he, hM, z, kk⟩
  rcases z with ⟨ys, p, ps, h1, h2, h3, h4, h5, z⟩ | ⟨a, kvs, rfl, e1, hk, z⟩
  · obtain ⟨as, r1⟩ := Dp.reads I p x v (h2.dp hM hd) rx
    rcases PDL.rd h1 h3 with h3 | h3
    · obtain ⟨bs, r2⟩ := Dp.reads I _ y u (h3.dp hM he) ry
      cases neg with
      | false => exact SeqAt.in_tuple_reads r2 r1 h5 (SeqAt.canLay_of_shaped h4) (room_in_shaped h4 hu) ⟨.bl _, H, I, rfl, kk _ _ _ _ .refl (.bl _) hM z⟩
      | true => exact SeqAt.notIn_tuple_reads r2 r1 h5 (SeqAt.canLay_of_shaped h4) (room_in_shaped h4 hu) ⟨.bl _, H, I, rfl, kk _ _ _ _ .refl (.bl _) hM z⟩
    · obtain ⟨bs, r2⟩ := Dp.reads I _ y u (h3.dp hM he) ry
      cases neg with
      | false => exact SeqAt.in_list_reads r2 r1 h5 (SeqAt.canLay_of_shaped h4) (room_in_shaped h4 hu) ⟨.bl _, H, I, rfl, kk _ _ _ _ .refl (.bl _) hM z⟩
      | true => exact SeqAt.notIn_list_reads r2 r1 h5 (SeqAt.canLay_of_shaped h4) (room_in_shaped h4 hu) ⟨.bl _, H, I, rfl, kk _ _ _ _ .refl (.bl _) hM z⟩
  · cases he
    cases ry
    exact dct_in I (by omega) (hM.obj _ _ e1) hk hd rx fun s' I' => ⟨.bl _, H, I', rfl, kk _ _ _ _ .refl (.bl _) hM z⟩
/-! ### repr -/
def bRepr : DL := fun ds M q => match ds with
  | [d] => ∃ p, PD M d p ∧ p.showable = true ∧ p.depth ≤ 60 ∧ p.shown.length ≤ sizeLine ∧ (∃ xs, itemsOf M d = some xs) ∧ q (.str p.shown) M
  | _ => False
theorem pd_noDict : ∀ {M : Mm} {d : D} {p : PyData}, PD M d p → p.hasDict = false := by
  intro M d p h
  refine PD.rec (motive_1 := fun d p _ => p.hasDict = false) (motive_2 := fun ds ps _ => PyData.hasDictAll ps = false) ?_ ?_ ?_ ?_ ?_ ?_ ?_ ?_ ?_ h
  · rw [PyData.hasDict]
  · intro b; rw [PyData.hasDict]
  · intro i; rw [PyData.hasDict]
  · intro x; rw [PyData.hasDict]
  · intro xs ds _ ih; rw [PyData.hasDict]; exact ih
  · intro xs ds _ ih; rw [PyData.hasDict]; exact ih
  · intro a xs ds _ _ ih; rw [PyData.hasDict]; exact ih
  · rw [PyData.hasDictAll]
  · intro d p ds ps _ _ h1 h2; rw [PyData.hasDictAll, h1, h2]; rfl
theorem cl_repr (hg : X.A.guards = some []) (hu : X.A.units + 64 < cLine) : CL' X T (.builtin "repr") bRepr := by
  intro pins s σ H xs us Q I r ⟨ds, M, q, hd, hM, z, k⟩
  match ds, hd, z with
  | [d], .cons h1 .nil, ⟨p, hp, hs, h60, hz, ⟨ys, hi⟩, z⟩ =>
    obtain ⟨u, rfl, ru⟩ := vals1 r
    obtain ⟨a, vs, rfl, sq, l⟩ := itemsOf_ok hM hi h1
    cases ru
    obtain ⟨as, rd⟩ := Dp.reads I p _ (.ref a) (hp.dp hM h1) rfl
    exact repr_of_reads' rd hs (PyData.noDict_hsm (pd_noDict hp)) hg (by omega) (fun _ _ e => e) (fun h' u tk hk => ⟨.str p.shown, H, I.kept hk, ⟨u, rfl⟩, k _ _ _ _ .refl (.str _) hM z⟩) hz
end
end Lk
set_option Elab.async false
set_option linter.all false
set_option maxRecDepth 100000
set_option maxHeartbeats 1000000
/-! Lark, part 16: a def keeps its promise; calls by names; the law's end. -/
namespace Lk
open PySem PySem.Spec PyProof.Rows L2

/-- what is wanted at a def's end: it may know less of the memory -/
def Wq (q : Kd) : Kd := fun d M' => ∃ M0, Sub M0 M' ∧ q d M0
theorem Wq.of {q : Kd} {d : D} {M : Mm} (h : q d M) : Wq q d M := ⟨M, .refl M, h⟩
theorem Wq.sub {q : Kd} {d : D} {M M' : Mm} (h : q d M) (s : Sub M M') : Wq q d M' := ⟨M, s, h⟩
/-- the slots at the entry -/
def startD (N : List Str) (ds : List D) : DSt := ds.map some ++ List.replicate (N.length - ds.length) none
theorem denS_start {K : PySem.W.Frag} {H : Hp} {N : List Str} {ds : List D} {vs : List V} (h : DenL K H ds vs) : DenS K H (startD N ds) (L2.start N vs) := by
  refine ⟨by unfold startD L2.start; simp [h.length], fun i d e => ?_⟩
  unfold startD at e
  have l := h.length
  by_cases hi : i < ds.length
  · rw [List.getElem?_append_left (by simpa using hi), List.getElem?_map] at e
    cases q : ds[i]? with
    | none => rw [q] at e; cases e
    | some x =>
      rw [q] at e
      cases e
      obtain ⟨v, e2, hd⟩ := h.get q
      refine ⟨v, ?_, hd⟩
      unfold L2.start
      rw [List.getElem?_append_left (by rw [List.length_map, ← l]; exact hi), List.getElem?_map, e2]; rfl
  · rw [List.getElem?_append_right (by simpa using hi), List.getElem?_replicate] at e
    split at e <;> cases e
/-- the context of a def's body: nothing is raised -/
abbrev bx (P : Program) (w : World) (K : PySem.W.Frag) (mg : Str → Option Value) (base : Heap) (N : List Str) (qual : Str) (scope : Scope) (f : Addr) (cd : Value) (A : Around) (outer : List Env) (s : Shared) (H : Hp) (E : XK) : Cx :=
  { cxOf CX0 P w K mg base N qual scope f cd A outer s H E with xe := fun _ _ => False }
section
variable {P : Program} {w : World} {K : PySem.W.Frag} {T : List Addr} {mg : Str → Option Value} {base : Heap} {x qual : Str} {params : Arguments} {body : List Stmt} {scope : Scope} {f : Addr} {fd : FuncData}
/-- THE RULE: a def without defaults keeps its promise -/
theorem fnL {N ps : List Str} {k : Nat} {sp : DSp} {r : DS} {at_ : He.Defn} (F : FunD K x qual params body scope [] [] f fd) (hat : He.fAd K at_ = f) (S : FnScope N ps scope)
    (hb : ∀ (c : Addr), He.codeOf K at_ = c → ∀ (A : Around) (outer : List Env) (s : Shared) (H : Hp) (E : XK) (ex : EK), RoomG k (A.deeper (envOfC qual scope s.heap.objs.size f (.ref c))) → SsP' (bx P w K mg base N qual scope f (.ref c) A outer s H E) T ex body r)
    (pl : ∀ (ds : List D) (M : Mm) (q : Kd) (ex : EK), ds.length = ps.length → sp ds M q ex → r ex { nx := fun _ M' => Wq q .non M', rt := Wq q } (startD N ds) M) :
    FnL ⟨P, w, K, T⟩ mg base CX0 (k + 1) f fd ps sp := by
  obtain ⟨oc, od, dV, kV, doc, pm, an, cdv, ct, osl, rfl, lk, hcd, _, _⟩ := F.ex
  obtain ⟨c, rfl⟩ := He.codeIn_ref hcd
  have hco : He.codeOf K at_ = c := He.codeOf_eq (by rw [hat]; exact lk) rfl
  refine ⟨fun A outer s H args us vs ds M q ex hr e0 hbi rv hd hl hM hsp => ?_⟩
  have hlv : vs.length = ps.length := by rw [← hd.length]; exact hl
  have KX : K.In s.heap := e0.mod.kin.keeps fun b o e => (e0.bs b o e).1
  have lim : s.heap.NoLimit := e0.mod.nolimit.keeps fun b o e => (e0.bs b o e).1
  have hkind : ∀ y ∈ ps.zip us, scope.names.lookup y.1 = some .local ∨ (scope.names.lookup y.1 = some .cell ∧ ((cellsFrom (s.heap.objs.size + 1) scope.names []).lookup y.1).isSome = true) := fun ⟨n, v⟩ hy => by
    rcases S.par n (List.of_mem_zip hy).1 with q | q
    · exact .inl q
    · exact .inr ⟨q, PySem.W.cellsFrom_some _ _ _ (.inl q)⟩
  refine codeAny_call_function hr.rm.depth (KX _ _ lk) rfl S.co S.gen rfl (PySem.W.codeRec_of KX hcd) (hbi _ _ _ _ ?_)
  refine wpAny_newFunctionEnv_cells S.kind hkind fun env he s1 x => ?_
  subst he
  refine ⟨lim.keeps x.toInCall.keep, codeAny_func ?_⟩
  have I0 : Inv (cxOf CX0 P w K mg base N qual scope f (.ref c) A outer s H (fun _ _ _ => False)) [] (L2.start N vs) H s1 := inv_start S hr.rm.hd e0 hlv rv x
  have I : Inv (bx P w K mg base N qual scope f (.ref c) A outer s H (fun _ _ _ => False)) [] (L2.start N vs) H s1 := ⟨⟨I0.ok.mod, I0.ok.kind, I0.ok.glob, I0.ok.blt, I0.ok.above, I0.ok.inj, I0.ok.has, I0.ok.cab, I0.ok.hd, I0.ok.frames, I0.ok.stk, I0.ok.exf, I0.ok.bs, I0.ok.bsz, I0.ok.noex, I0.ok.exfs, I0.ok.funs, I0.ok.frf⟩,
    I0.os, I0.bare, I0.base, I0.loc, I0.cell, I0.free, I0.freeC, I0.pin, I0.hok, I0.len⟩
  have body_ := hb c hco A outer s H (fun _ _ _ => False) ex (hr.deeper _)
  have fin : ∀ {s' : Shared} {σ' : L2.St} {H' : Hp} {v : V} {u : Value}, Inv (bx P w K mg base N qual scope f (.ref c) A outer s H (fun _ _ _ => False)) [] σ' H' s' → RelV v u → (∃ d M', Ext K H H' ∧ Den K H' d v ∧ Mr ⟨P, w, K, T⟩ H' M' ∧ Wq q d M') → CEL ⟨P, w, K, T⟩ outer H s q u s' :=
    fun {s' σ' H' v u} J rv ⟨d, M', e1, d1, m1, M0, sb, q1⟩ => ⟨v, H', d, M0, J.os, J.bare, J.base, J.hok, rv, e1, d1, m1.sub sb, q1⟩
  refine wpAny_mono (body_.run [] s1 (L2.start N vs) H { nx := fun _ H' => ∃ d M', Ext K H H' ∧ Den K H' d .non ∧ Mr ⟨P, w, K, T⟩ H' M' ∧ Wq q d M', rt := fun v H' => ∃ d M', Ext K H H' ∧ Den K H' d v ∧ Mr ⟨P, w, K, T⟩ H' M' ∧ Wq q d M' } I
    ⟨startD N ds, M, _, denS_start hd, hM, pl ds M q ex hl hsp, ⟨fun σ' H' δ' M' e1 d1 m1 z => ⟨.non, M', e1, .non, m1, z⟩, fun v H' d M' e1 d1 m1 z => ⟨d, M', e1, d1, m1, z⟩, fun _ _ _ _ _ _ _ z => z, fun _ _ _ _ _ _ _ z => z⟩⟩) (fun fl s' hs => ?_) fun e s' z => z.elim
  cases fl with
  | ret u =>
    obtain ⟨v, σ', H', J, rv', z⟩ := hs
    exact fin J rv' z
  | next =>
    obtain ⟨σ', H', J, z⟩ := hs
    exact fin (v := V.non) (u := Value.none) J rfl z
  | brk =>
    obtain ⟨_, _, _, z⟩ := hs
    exact False.elim z
  | cont =>
    obtain ⟨_, _, _, z⟩ := hs
    exact False.elim z
end
/-- a def that may be called by its name -/
structure Cal (W : Wd) (mg : Str → Option Value) (base : Heap) (k : Nat) (x : Str) (ps : List Str) (sp : DSp) : Prop where
  ex : ∃ (f : Addr) (fd : FuncData), FnL W mg base CX0 k f fd ps sp ∧ mg x = some (.ref f) ∧ PySem.W.keepIn W.K (.ref f) = true ∧ (∀ us : List Value, us.length = ps.length → bindArgs fd ⟨us, []⟩ = pure (ps.zip us))
theorem Cal.mono {W : Wd} {mg : Str → Option Value} {base : Heap} {j k : Nat} {x : Str} {ps : List Str} {sp : DSp} (C : Cal W mg base j x ps sp) (h : j ≤ k) : Cal W mg base k x ps sp :=
  let ⟨f, fd, F, a⟩ := C.ex; ⟨f, fd, F.mono h, a⟩
section
variable {X : Cx} {T : List Addr} {ex : EK} {k : Nat} {ps : List Str} {sp : DSp} {x : Str} {p pos : Pos} {e : Expr} {es : List Expr} {rs : DA}
theorem pass0L : PassL CX0 X T ex := fun _ _ _ _ _ _ _ z => z.elim
theorem de_cal (C : Cal (wd X T) X.mg X.base k x ps sp) (hr : RoomG k X.A) (hg : Gl X x) (ha : AP' X T ex (e :: es) rs) (hdb : (x == ("__debug__" : Str)) = false)
    (he : starEach (e :: es) X.env = (false, eval e X.env) :: starEach es X.env) (hpl : (backTo pos (starEach es X.env)).any (·.1) = false) : EP' X T ex (.Call (.Name x p) (e :: es) [] pos) (rCall sp ps.length rs) := by
  obtain ⟨f, fd, F, hm, hk, hb⟩ := C.ex
  exact de_call F hr hg hm hk hb pass0L ha hdb he hpl
end
/-- .. by keywords too -/
structure CalK (W : Wd) (mg : Str → Option Value) (base : Heap) (k : Nat) (x : Str) (ps : List Str) (sp : DSp) (ks : List Str) (pm : List Nat) : Prop where
  ex : ∃ (f : Addr) (fd : FuncData), FnL W mg base CX0 k f fd ps sp ∧ mg x = some (.ref f) ∧ PySem.W.keepIn W.K (.ref f) = true ∧ (∀ ws : List Value, ws.length = ks.length → bindArgs fd ⟨[], ks.zip ws⟩ = pure (ps.zip (permD pm ws .none))) ∧ pm.length = ps.length
section
variable {X : Cx} {T : List Addr} {ex : EK} {k : Nat} {ps ks : List Str} {sp : DSp} {x : Str} {p pos : Pos} {kws : List Keyword} {pm : List Nat} {rs : DA}
theorem de_calK (C : CalK (wd X T) X.mg X.base k x ps sp ks pm) (hr : RoomG k X.A) (hg : Gl X x) (ha : KP' X T ex kws rs) (hdb : (x == ("__debug__" : Str)) = false)
    (hall : (backToKw pos (keywordEach kws X.env)).all (·.1.isSome) = true) (hks : (backToKw pos (keywordEach kws X.env)).filterMap (·.1) = ks)
    (hpl : ((backTo pos (starEach [] X.env)).any (·.1) || (backToKw pos (keywordEach kws X.env)).any (·.1.isNone)) = false) : EP' X T ex (.Call (.Name x p) [] kws pos) (rCallK sp ks.length pm rs) := by
  obtain ⟨f, fd, F, hm, hk, hb, hl⟩ := C.ex
  exact de_callK F hr hg hm hk hb hl pass0L ha hdb hall hks hpl
end
/-! ### the law's end -/
/-- what a law's promise must give, over data: True at every script -/
def LawD (n : Nat) (sp : DSp) : Prop := ∀ ns : List Int, ns.length ≤ n → (∀ z ∈ ns, Builtin.Int.intBits z ≤ 1048576) → sp [.rol (ns.map D.int)] (fun _ => none) (fun d _ => d = .bl true) fun _ _ _ => False
theorem denL_ints {K : PySem.W.Frag} {H : Hp} : ∀ ns : List Int, DenL K H (ns.map D.int) (ns.map V.int)
  | [] => .nil
  | n :: ns => .cons (.int n) (denL_ints ns)
/-- the script's object, an empty table -/
abbrev scO (vs : List Value) : Obj := { cls := .type "list", data := .seq vs.toArray }
abbrev etO : Obj := { cls := .none, data := .fields #[] }
/-- what is tracked at the law's entry -/
def H0of (K : PySem.W.Frag) (a : Addr) (o : Obj) (xs : List V) (ts : List Addr) : Hp := fun b => if b = a ∧ (K.lookup a).isNone = true then some (.frz o (.lst xs)) else if b ∈ ts then some (.tbl #[]) else none
theorem H0of_some {K : PySem.W.Frag} {a b : Addr} {o : Obj} {xs : List V} {ts : List Addr} {u : HO} (h : H0of K a o xs ts b = some u) : (b = a ∧ (K.lookup a).isNone = true ∧ u = .frz o (.lst xs)) ∨ (b ∈ ts ∧ u = .tbl #[]) := by
  unfold H0of at h
  split at h
  · rename_i hc; cases h; exact .inl ⟨hc.1, hc.2, rfl⟩
  · split at h
    · rename_i hc; cases h; exact .inr ⟨hc, rfl⟩
    · cases h
section
variable {P : Program} {w : World} {K : PySem.W.Frag} {mg mb : Str → Option Value} {k : Nat} {fa a : Addr} {cs : List (Addr × Addr)} {fd : FuncData} {x : Str} {sp : DSp} {s₁ : Shared} {vs : List Value} {ns : List Int}
theorem law_callL (KX : K.In s₁.heap) (hns : s₁.heap.Ns mainGlobals mg) (hb : s₁.heap.Ns builtinsNs mb) (hbb : ∀ x : Str, x ≠ "__name__" → mb x = bootBuiltins x) (hlim : s₁.heap.NoLimit) (hg : s₁.gens = #[])
    (hT : ∀ p ∈ cs, s₁.heap.get? p.2 = some etO) (nT : ∀ p ∈ cs, K.lookup p.2 = none) (C : ∀ p ∈ cs, PySem.W.CodeHd s₁.heap p.1 p.2)
    (hbm : ∃ (bm : Addr) (ob : Obj), mg "__builtins__" = some (.ref bm) ∧ bm ≠ builtinsNs ∧ s₁.heap.get? bm = some ob ∧ ob.cls = .type "module" ∧ ob.dict = some builtinsNs ∧ ob.data = .plain)
    (ha : s₁.heap.get? a = some (scO vs)) (hi : IntsAre vs ns) (hl : ns.length ≤ sizeLine) (hr : RoomG k callerA)
    (F : ∀ base : Heap, K.In base → base.Ns mainGlobals mg → (∀ p ∈ cs, GxR.TabB base mg p.1 p.2) → FnL ⟨P, w, K, cs.map (·.2)⟩ mg base CX0 k fa fd [x] sp) (hbind : ∀ (s : Shared) (u : Value), BindsTo s fd ⟨[u], []⟩ [(x, u)])
    (hsp : sp [.rol (ns.map D.int)] (fun _ => none) (fun d _ => d = .bl true) fun _ _ _ => False) :
    codeAny (model P w) callerA (.call (.ref fa) ⟨[.ref a], []⟩) (fun r s' => r = .ok (.ret (.bool true)) ∧ OldK s₁.heap s'.heap ∧ s'.os = s₁.os ∧ AllBare s'.gens) s₁ := by
  have rv := vals_ints hi
  have nlen := hi.length
  have isT : ∀ b : Addr, b ∈ cs.map (·.2) → s₁.heap.get? b = some etO := fun b hm => let ⟨p, hp, e⟩ := List.mem_map.mp hm; e ▸ hT p hp
  generalize hH : H0of K a (scO vs) (ns.map V.int) (cs.map (·.2)) = H
  have hs : ∀ b u, H b = some u → (b = a ∧ (K.lookup a).isNone = true ∧ u = .frz (scO vs) (.lst (ns.map V.int))) ∨ (b ∈ cs.map (·.2) ∧ u = .tbl #[]) := fun b u e => H0of_some (hH ▸ e)
  have off : ∀ {b : Addr} {o : Obj}, s₁.heap.get? b = some o → (∀ z n, o.data ≠ .seq z n) → o.data ≠ .fields #[] → H b = none := fun {b o} e d1 d2 => by
    cases q : H b with
    | none => rfl
    | some u =>
      rcases hs b u q with ⟨rfl, _, _⟩ | ⟨hm, _⟩
      · rw [ha] at e; cases e; exact absurd rfl (d1 _ _)
      · rw [isT b hm] at e; cases e; exact absurd rfl d2
  have up : ∀ {b : Addr} {o : Obj}, s₁.heap.get? b = some o → H b = none → (hidT s₁.heap H).get? b = some o := fun e n => hidT_get e n
  have upd_ : ∀ {b : Addr} {o : Obj} {es : Array DictEntry} {ep : Nat}, s₁.heap.get? b = some o → o.data = .dict es ep → (hidT s₁.heap H).get? b = some o := fun {b o es ep} e d => up e (off e (fun _ _ z => by rw [d] at z; cases z) (fun z => by rw [d] at z; cases z))
  have nsU : ∀ {b : Addr} {m : Str → Option Value}, s₁.heap.Ns b m → (hidT s₁.heap H).Ns b m := fun ⟨o, es, ep, e, d, r⟩ => ⟨o, es, ep, upd_ e d, d, r⟩
  have KB : K.In (hidT s₁.heap H) := fun b o e => up (KX b o e) (by
    cases q : H b with
    | none => rfl
    | some u =>
      rcases hs b u q with ⟨rfl, hn, _⟩ | ⟨hm, _⟩
      · rw [e] at hn; cases hn
      · obtain ⟨p, hp, ep⟩ := List.mem_map.mp hm
        rw [← ep, nT p hp] at e; cases e)
  have TB : ∀ p ∈ cs, GxR.TabB (hidT s₁.heap H) mg p.1 p.2 := fun p hp => by
    refine ⟨?_, ?_, fun z => ?_⟩
    · obtain ⟨o, us, file, tf, flags, tg, inF, text, tt, e1, rc, r1, r2, rest⟩ := C p hp
      refine ⟨o, us, file, tf, flags, tg, inF, text, tt, up e1 (off e1 (fun _ _ z => by rw [r1] at z; cases z) fun z => ?_), rc, r1, r2, rest⟩
      rw [r1] at z
      cases z
      simp at r2
    · obtain ⟨bm, ob, b1, b2, b3, b4, b5, b6⟩ := hbm
      refine ⟨bm, ob, b1, b2, fun q => ?_, fun q => ?_, up b3 (off b3 (fun _ _ z => by rw [b6] at z; cases z) fun z => by rw [b6] at z; cases z), b4, b5, b6⟩
      · obtain ⟨o, es, ep, e, hd, _⟩ := hns
        rw [q, e] at b3
        cases b3
        rw [hd] at b6; cases b6
      · rw [q, hT p hp] at b3
        cases b3
        cases b6
    · obtain ⟨o, es, ep, e, hd, _⟩ := hns
      rw [z, hT p hp] at e
      cases e
      cases hd
  have hok : HOk P w H s₁.heap := fun b u q => by
    rcases hs b u q with ⟨rfl, _, rfl⟩ | ⟨hm, rfl⟩
    · exact ⟨ha, by rw [List.length_map]; exact hl, vs, _, rv, ha⟩
    · exact isT b hm
  have e0 : Env0 P w K mg (hidT s₁.heap H) callerA [] s₁ H := ⟨rfl, ⟨KB, nsU hns, ⟨mb, nsU hb, hbb⟩, let ⟨mc, h1, h2⟩ := hlim; ⟨mc, nsU h1, h2⟩⟩, fun b o e => of_hidT e, Nat.le_of_eq (hidT_size _ _), trivial, fun b z => (nomatch z), hok, .of_eq hg⟩
  have tabH : ∀ p ∈ cs, H p.2 = some (.tbl #[]) := fun p hp => by
    have hm : p.2 ∈ cs.map (·.2) := List.mem_map.mpr ⟨p, hp, rfl⟩
    rw [← hH]
    unfold H0of
    rw [if_neg fun z => ?_, if_pos hm]
    have := hT p hp
    rw [z.1, ha] at this
    cases this
  have scr : RoL K H a (ns.map V.int) := by
    cases q : K.lookup a with
    | none => exact .inl ⟨scO vs, by rw [← hH]; unfold H0of; rw [if_pos ⟨rfl, by rw [q]; rfl⟩]⟩
    | some o =>
      have e := KX a o q
      rw [ha] at e
      cases e
      exact .inr ⟨_, vs.toArray, _, q, rfl, rfl, rfl, by rw [List.size_toArray, ← nlen.symm]; exact hl, by simpa using rv⟩
  have mr : Mr ⟨P, w, K, cs.map (·.2)⟩ H (fun _ => none) := ⟨fun _ _ z => (nomatch z), fun q hq => by
    obtain ⟨p, hp, rfl⟩ := List.mem_map.mp hq
    exact ⟨#[], tabH p hp, by simp [TriplesOk]⟩⟩
  refine codeAny_mono ((F _ KB (nsU hns) TB).run callerA [] s₁ H ⟨[.ref a], []⟩ [.ref a] [.ref a] [.rol (ns.map D.int)] (fun _ => none) _ _ hr e0 (hbind s₁ (.ref a)) (.cons rfl .nil) (.cons (.rol scr (denL_ints ns)) .nil) rfl mr hsp) fun r s' h => ?_
  cases r with
  | error e => exact False.elim h
  | ok fl =>
    cases fl with
    | next => exact False.elim h
    | brk => exact False.elim h
    | cont => exact False.elim h
    | ret u =>
      obtain ⟨v, H', d, M', os, bare, un, hok', r', _, dd, _, q⟩ := h
      have q : d = .bl true := q
      subst q
      cases dd
      cases r'
      refine ⟨rfl, ⟨fun b o e => ?_, fun b o e => un.there b o e (by simp)⟩, os, bare⟩
      cases q : H b with
      | none => exact .inl (un.keep b o e q (fun z => (nomatch z)) (by simp))
      | some u =>
        rcases hs b u q with ⟨rfl, _, rfl⟩ | ⟨hm, rfl⟩
        · obtain ⟨e1, _⟩ := hok' _ _ (un.frzs _ _ _ q)
          rw [ha] at e; cases e
          exact .inl e1
        · obtain ⟨more, z⟩ := un.tbls b #[] q
          have z2 := hok' b _ z
          obtain ⟨p, hp, ep⟩ := List.mem_map.mp hm
          rw [isT b hm] at e
          cases e
          refine .inr (.inl ⟨?_, rfl, #[], more, rfl, z2⟩)
          rw [← ep]
          exact ((C p hp).tab (hT p hp)).isCodeTable
end
theorem law_walk {l : PySem.W.OpenLaw} {n k : Nat} {q : Program} {loose : List Str} {XP : (Str → Option Value) → Heap → Prop} {YP : World → Heap → Prop} {d : DefRec} {x : Str}
    (hn : l.most = some n) (hn2 : n ≤ sizeLine) (hdf : d.params.defaults = []) (hr : RoomG k callerA)
    (F : ∀ (w : World) (mg : Str → Option Value) (fa : Addr) (h : Heap), YP w h → h.Ns mainGlobals mg → mg d.name = some (.ref fa) → ∃ (K : PySem.W.Frag) (fd : FuncData) (cs : List (Addr × Addr)) (sp : DSp), K.In h ∧
      (∀ p ∈ cs, h.get? p.2 = some etO) ∧ (∀ p ∈ cs, K.lookup p.2 = none) ∧ (∀ p ∈ cs, PySem.W.CodeHd h p.1 p.2) ∧ (∀ (s : Shared) (u : Value), BindsTo s fd ⟨[u], []⟩ [(x, u)]) ∧ LawD n sp ∧
      ∀ base : Heap, K.In base → base.Ns mainGlobals mg → (∀ p ∈ cs, GxR.TabB base mg p.1 p.2) → FnL ⟨l.prog, w, K, cs.map (·.2)⟩ mg base CX0 k fa fd [x] sp) :
    PySem.W.WalkO q loose XP YP l.row.toRowW d [] (fun f vs => PySem.call f vs) := by
  refine Att.attach_callB hn hdf fun w s₀ s₁ mg mb fa o pm cd doc a vs ns G Y ho hd hcd hmg hobj hints hlen hbits hg => ?_
  obtain ⟨K, fd, cs, sp, KX, hT, nT, C, hb, hsp, hF⟩ := F w mg fa _ Y G.T.g hmg
  exact law_callL KX G.T.g G.T.b G.T.builtins G.T.nolimit hg hT nT C G.T.bmain hobj hints (Nat.le_trans hlen hn2) hr hF hb (hsp ns hlen hbits)
end Lk
set_option Elab.async false
set_option linter.all false
set_option maxRecDepth 100000
set_option maxHeartbeats 1000000
/-! Lark, part 17: what the printed walks lean on: room, global ints, the types' names, `+=`, ints by <. -/
namespace Lk
open PySem PySem.Spec PyProof.Rows L2

theorem RoomG.u {k n : Nat} {A : Around} (r : RoomG k A) (h : n ≤ 200 := by decide) : A.units + n < cLine := by have := r.rm.un; omega
theorem RoomG.low {k : Nat} {A : Around} (r : RoomG (k + 1) A) : RoomG k A := r.mono (Nat.le_succ k)
section
variable {X : Cx} {T : List Addr} {ex : EK} {pos : Pos}
/-- a module's int -/
theorem de_gint {x : Str} {i : Int} (hg : Gl X x) (hm : ∃ t, X.mg x = some (.int i t)) (hd : (x == ("__debug__" : Str)) = false) : EP' X T ex (.Name x pos) (rCst (.int i)) :=
  let ⟨t, e⟩ := hm
  de_cst (pe_glob (v := .int i) hg e ⟨t, rfl⟩ hd) fun _ => .int i
/-- a type by its name -/
theorem de_ty {x : Str} {n : String} (hg : Gl X x) (hm : X.mg x = none) (hv : bootBuiltins x = some (.type n)) (hn : x ≠ "__name__") (hd : (x == ("__debug__" : Str)) = false) : EP' X T ex (.Name x pos) (rCst (.ty n)) :=
  de_cst (pe_bltn (v := .ty n) hg hm hv rfl hn hd) fun _ => .ty n
/-- a += b over ints -/
def oAddI : D2 := fun x y M q => ∃ i j, x = .int i ∧ y = .int j ∧ q (.int (i + j)) M
theorem ipd_add : PIp X .Add (r2D (wd X T) oAddI) := by
  intro pins s σ H x y v u Q I r1 r2 ⟨d, e, M, q, hd, he, hM, ⟨i, j, e1, e2, z⟩, k⟩
  subst e1; subst e2
  cases hd; cases he
  exact ip_add pins s σ H _ _ v u Q I r1 r2 ⟨i, j, rfl, rfl, k _ _ _ _ .refl (.int _) hM z⟩
def oSubI : D2 := fun x y M q => ∃ i j, x = .int i ∧ y = .int j ∧ q (.int (i - j)) M
theorem ipd_sub : PIp X .Sub (r2D (wd X T) oSubI) := by
  intro pins s σ H x y v u Q I r1 r2 ⟨d, e, M, q, hd, he, hM, ⟨i, j, e1, e2, z⟩, k⟩
  subst e1; subst e2
  cases hd; cases he
  exact ip_sub pins s σ H _ _ v u Q I r1 r2 ⟨i, j, rfl, rfl, k _ _ _ _ .refl (.int _) hM z⟩
end
/-- <: ints, else by the keys' order -/
def oLt2 : D2 := fun x y M q => match x, y with
  | .int i, .int j => q (.bl (decide (i < j))) M
  | x, y => oLt x y M q
theorem opd_lt2 {X : Cx} {T : List Addr} (hu : X.A.units + 64 < cLine) : OP' X T (compareOp .Lt) oLt2 := by
  intro pins s σ H x y v u Q I rx ry ⟨d, e, M, q, hd, he, hM, z, k⟩
  have g : oLt d e M q → wpAny (model X.prog X.w) X.A (compareOp .Lt v u) (EP X pins σ Q) X.xe s := fun z => opd_lt hu pins s σ H x y v u Q I rx ry ⟨d, e, M, q, hd, he, hM, z, k⟩
  cases hd with
  | int i => cases he with
    | int j => exact op_lt pins s σ H _ _ v u Q I rx ry ⟨i, j, rfl, rfl, k _ _ _ _ .refl (.bl _) hM z⟩
    | _ => exact g z
  | _ => exact g (by first | exact z | (cases he <;> exact z))
def oLe : D2 := oRel (fun i j => decide (i ≤ j)) false .LtE
def oGt : D2 := oRel (fun i j => decide (j < i)) false .Gt
def oGe : D2 := oRel (fun i j => decide (j ≤ i)) false .GtE
theorem opd_le {X : Cx} {T : List Addr} : OP' X T (compareOp .LtE) oLe := op_rel op_le
theorem opd_gt {X : Cx} {T : List Addr} : OP' X T (compareOp .Gt) oGt := op_rel op_gt
theorem opd_ge {X : Cx} {T : List Addr} : OP' X T (compareOp .GtE) oGe := op_rel op_ge
/-- a generator expression's scope, checked -/
def gxC (N : List Str) (sc : Scope) (own capn : List Str) (caps : List Nat) (scope : Scope) : Bool :=
  (match scope.kind with
  | .function => true
  | _ => false) && (!scope.isCoroutine && (scope.names.all (fun y => match y.2 with
    | .cell => false
    | .free => (match sc.names.lookup y.1 with
      | some .cell => true
      | some .free => true
      | _ => false)
    | _ => true) && ((match scope.names.lookup (".0" : Str) with
      | some .local => true
      | _ => false) && (capn.all (fun x => match scope.names.lookup x with
        | some .free => true
        | _ => false) && decide (caps.map (fun i => N[i]?) = capn.map some)))))
theorem gxOk_by {N : List Str} {sc : Scope} {own capn : List Str} {caps : List Nat} {scope : Scope} (h : gxC N sc own capn caps scope = true) : GxOk N sc own capn caps scope := by
  unfold gxC at h
  simp only [Bool.and_eq_true, List.all_eq_true, decide_eq_true_eq] at h
  obtain ⟨h1, h2, h3, h4, h5, h6⟩ := h
  refine ⟨?_, ?_, fun y hy e => ?_, ?_, fun y hy e => ?_, fun x hx => ?_, h6⟩
  · split at h1
    · assumption
    · cases h1
  · simpa using h2
  · have q := h3 y hy
    rw [e] at q; cases q
  · split at h4
    · assumption
    · cases h4
  · have q := h3 y hy
    rw [e] at q
    simp only at q
    split at q <;> first | exact .inl (by assumption) | exact .inr (by assumption) | cases q
  · have q := h5 x hx
    split at q <;> first | assumption | cases q
theorem nd {N : List Str} (h : decide N.Nodup = true) : N.Nodup := of_decide_eq_true h
theorem never {X : Cx} (h : X.xe = fun _ _ => False) : PassesOwn (model X.prog X.w) X.A X.env X.xe := by rw [h]; exact PassesOwn.never
end Lk
set_option Elab.async false
set_option linter.all false
set_option maxRecDepth 100000
set_option maxHeartbeats 1000000
/-! Lark, part 18: readings unfolded by simp; loops by their invariants. -/
namespace Lk
open PySem PySem.Spec PyProof.Rows L2
section
variable {ex : EK} {δ : DSt} {M : Mm} {q : Kd} {K : DEnds} {a b c : DE} {s t : DT} {r r' : DS} {l : DA} {i j : Nat} {d e : D} {o o' : D2}
@[simp] theorem u_rVar : rVar i ex δ M q = ∃ d, δ[i]? = some (some d) ∧ q d M := rfl
@[simp] theorem u_rCst : rCst d ex δ M q = q d M := rfl
@[simp] theorem u_rBin : rBin o a b ex δ M q = a ex δ M fun x M1 => b ex δ M1 fun y M2 => o x y M2 q := rfl
@[simp] theorem u_rUn {o : D1} : rUn o a ex δ M q = a ex δ M fun x M1 => o x M1 q := rfl
@[simp] theorem u_rNil {q : List D → Mm → Prop} : rNil ex δ M q = q [] M := rfl
@[simp] theorem u_rCons {q : List D → Mm → Prop} : rCons a l ex δ M q = a ex δ M fun x M1 => l ex δ M1 fun xs M2 => q (x :: xs) M2 := rfl
@[simp] theorem u_rTup : rTup l ex δ M q = l ex δ M fun xs M1 => xs.length ≤ sizeLine ∧ q (.tup xs) M1 := rfl
@[simp] theorem u_rLst : rLst l ex δ M q = l ex δ M fun xs M1 => xs.length ≤ sizeLine ∧ ∀ p, M1 p = none → q (.ref p) (mset M1 p (.lst xs)) := rfl
@[simp] theorem u_rArg {f : DL} : rArg f l ex δ M q = l ex δ M fun xs M1 => f xs M1 q := rfl
@[simp] theorem u_rTB {q : Bool → Mm → Prop} : rTB a ex δ M q = a ex δ M fun d M1 => ∃ k, d = .bl k ∧ q k M1 := rfl
@[simp] theorem u_rTru {q : Bool → Mm → Prop} : rTru a ex δ M q = a ex δ M fun d M1 => ∃ k, Tru M1 d k ∧ q k M1 := rfl
@[simp] theorem u_Tru_bl {b k : Bool} : Tru M (.bl b) k = (k = b) := rfl
@[simp] theorem u_Tru_int {z : Int} {k : Bool} : Tru M (.int z) k = (k = (z != 0)) := rfl
@[simp] theorem u_Tru_tup {xs : List D} {k : Bool} : Tru M (.tup xs) k = (k = !xs.isEmpty) := rfl
@[simp] theorem u_rAnd {q : Bool → Mm → Prop} : rAnd s t ex δ M q = s ex δ M fun c M1 => if c = true then t ex δ M1 q else q false M1 := rfl
@[simp] theorem u_rOr {q : Bool → Mm → Prop} : rOr s t ex δ M q = s ex δ M fun c M1 => if c = true then q true M1 else t ex δ M1 q := rfl
@[simp] theorem u_rNot {q : Bool → Mm → Prop} : rNot s ex δ M q = s ex δ M fun c M1 => q (!c) M1 := rfl
@[simp] theorem u_rAndV : rAndV a b ex δ M q = a ex δ M fun d M1 => ∃ c, d = .bl c ∧ if c = true then b ex δ M1 q else q (.bl false) M1 := rfl
@[simp] theorem u_rOrV : rOrV a b ex δ M q = a ex δ M fun d M1 => ∃ c, d = .bl c ∧ if c = true then q (.bl true) M1 else b ex δ M1 q := rfl
@[simp] theorem u_rNotV : rNotV a ex δ M q = a ex δ M fun d M1 => ∃ c, d = .bl c ∧ q (.bl (!c)) M1 := rfl
@[simp] theorem u_rIf : rIf s a b ex δ M q = s ex δ M fun c M1 => if c = true then a ex δ M1 q else b ex δ M1 q := rfl
@[simp] theorem u_rChain : rChain o o' a b c ex δ M q = a ex δ M fun x M1 => b ex δ M1 fun y M2 => o x y M2 fun z M3 => ∃ k, z = .bl k ∧ if k = true then c ex δ M3 fun w M4 => o' y w M4 q else q (.bl false) M3 := rfl
/-! statements -/
@[simp] theorem u_rNext : rNext ex K δ M = K.nx δ M := rfl
@[simp] theorem u_rSeq : rSeq r r' ex K δ M = r ex { K with nx := r' ex K } δ M := rfl
@[simp] theorem u_rBrk : rBrk ex K δ M = K.bk δ M := rfl
@[simp] theorem u_rCnt : rCnt ex K δ M = K.ct δ M := rfl
@[simp] theorem u_rRet : rRet a ex K δ M = a ex δ M K.rt := rfl
@[simp] theorem u_rRetN : rRetN ex K δ M = K.rt .non M := rfl
@[simp] theorem u_rIfS : rIfS s r r' ex K δ M = s ex δ M fun c M1 => if c = true then r ex K δ M1 else r' ex K δ M1 := rfl
@[simp] theorem u_rDrop : rDrop a ex K δ M = a ex δ M fun _ M1 => K.nx δ M1 := rfl
@[simp] theorem u_rNever : rNever ex K δ M = False := rfl
@[simp] theorem u_rgName {q : DSt → Mm → Prop} : rgName i d ex δ M q = q (δ.set i (some d)) M := rfl
@[simp] theorem u_rgNil {ds : List D} {q : DSt → Mm → Prop} : rgNil ds ex δ M q = (ds = [] ∧ q δ M) := rfl
@[simp] theorem u_rgCons {g : DG} {gs : DGs} {d : D} {ds : List D} {q : DSt → Mm → Prop} : rgCons g gs (d :: ds) ex δ M q = g d ex δ M fun δ1 M1 => gs ds ex δ1 M1 q := by
  apply propext
  constructor
  · rintro ⟨_, _, e, h⟩; cases e; exact h
  · exact fun h => ⟨_, _, rfl, h⟩
@[simp] theorem u_rgTup {n : Nat} {gs : DGs} {xs : List D} {q : DSt → Mm → Prop} : rgTup n gs (.tup xs) ex δ M q = (xs.length = n ∧ gs xs ex δ M q) := by
  apply propext
  constructor
  · rintro ⟨_, e, h⟩; cases e; exact h
  · exact fun h => ⟨_, rfl, h⟩
@[simp] theorem u_rgSub {x y : DE} {f : D3} {q : DSt → Mm → Prop} : rgSub x y f d ex δ M q = x ex δ M fun x M1 => y ex δ M1 fun y M2 => f x y d M2 fun M3 => q δ M3 := rfl
@[simp] theorem u_rAsg {g : DG} : rAsg a g ex K δ M = a ex δ M fun d M1 => g d ex δ M1 K.nx := rfl
@[simp] theorem u_rPar {is : List Nat} : rPar is a ex K δ M = a ex δ M fun d M1 => ∃ xs, d = .tup xs ∧ xs.length = is.length ∧ K.nx (setAll δ is xs) M1 := rfl
@[simp] theorem u_setAll1 {is : List Nat} {x : D} {xs : List D} : setAll δ (i :: is) (x :: xs) = (setAll δ is xs).set i (some x) := rfl
@[simp] theorem u_setAll0 {xs : List D} : setAll δ [] xs = δ := by cases xs <;> rfl
@[simp] theorem u_rAug : rAug i o a ex K δ M = ∃ x, δ[i]? = some (some x) ∧ a ex δ M fun y M1 => o x y M1 fun z M2 => K.nx (δ.set i (some z)) M2 := rfl
/-! calls -/
@[simp] theorem u_rCall {sp : DSp} {n : Nat} : rCall sp n l ex δ M q = l ex δ M fun ds M1 => ds.length = n ∧ sp ds M1 q ex := rfl
@[simp] theorem u_rCallK {sp : DSp} {n : Nat} {pm : List Nat} : rCallK sp n pm l ex δ M q = l ex δ M fun ds M1 => ds.length = n ∧ sp (permD pm ds .non) M1 q ex := rfl
@[simp] theorem u_permD0 {α : Type} {xs : List α} {d : α} : permD [] xs d = [] := rfl
@[simp] theorem u_permD1 {α : Type} {xs : List α} {d : α} {is : List Nat} : permD (i :: is) xs d = xs.getD i d :: permD is xs d := rfl
/-! operators -/
@[simp] theorem u_oAdd_i {x y : Int} : oAdd (.int x) (.int y) M q = q (.int (x + y)) M := rfl
@[simp] theorem u_oAdd_t {x y : List D} : oAdd (.tup x) (.tup y) M q = (x.length + y.length ≤ sizeLine ∧ q (.tup (x ++ y)) M) := rfl
@[simp] theorem u_oAdd_s {x y : Str} : oAdd (.str x) (.str y) M q = (x.length + y.length ≤ sizeLine ∧ q (.str (x ++ y)) M) := rfl
@[simp] theorem u_oAdd_r {x y : Addr} : oAdd (.ref x) (.ref y) M q = ∃ xs ys, M x = some (.lst xs) ∧ M y = some (.lst ys) ∧ xs.length + ys.length ≤ sizeLine ∧ ∀ p, M p = none → q (.ref p) (mset M p (.lst (xs ++ ys))) := rfl
@[simp] theorem u_oSub {x y : Int} : oSub (.int x) (.int y) M q = q (.int (x - y)) M := by simp [oSub, oI2]
@[simp] theorem u_oMul {x y : Int} : oMul (.int x) (.int y) M q = (MulOk x y ∧ q (.int (x * y)) M) := rfl
@[simp] theorem u_oDiv {x y : Int} : oDiv (.int x) (.int y) M q = (CDivW x y ∧ q (.int (x / y)) M) := rfl
@[simp] theorem u_oMod {x y : Int} : oMod (.int x) (.int y) M q = (0 < y ∧ q (.int (x % y)) M) := rfl
@[simp] theorem u_oPow {x y : Int} : oPow (.int x) (.int y) M q = (PowOk x y ∧ q (.int (x ^ y.toNat)) M) := rfl
@[simp] theorem u_oNeg {x : Int} : oNeg (.int x) M q = q (.int (-x)) M := rfl
@[simp] theorem u_oLe {x y : Int} : oLe (.int x) (.int y) M q = q (.bl (decide (x ≤ y))) M := rfl
@[simp] theorem u_oGt {x y : Int} : oGt (.int x) (.int y) M q = q (.bl (decide (y < x))) M := rfl
@[simp] theorem u_oGe {x y : Int} : oGe (.int x) (.int y) M q = q (.bl (decide (y ≤ x))) M := rfl
@[simp] theorem u_oLt2 {x y : Int} : oLt2 (.int x) (.int y) M q = q (.bl (decide (x < y))) M := rfl
@[simp] theorem u_oLt2t {x y : List D} : oLt2 (.tup x) (.tup y) M q = oLt (.tup x) (.tup y) M q := rfl
@[simp] theorem u_oAddI {x y : Int} : oAddI (.int x) (.int y) M q = q (.int (x + y)) M := by
  apply propext
  constructor
  · rintro ⟨_, _, e1, e2, h⟩; cases e1; cases e2; exact h
  · exact fun h => ⟨_, _, rfl, rfl, h⟩
@[simp] theorem u_oEq_i {n : Bool} {x y : Int} : oEq n (.int x) (.int y) M q = q (.bl (if n then !decide (x = y) else decide (x = y))) M := rfl
@[simp] theorem u_oEq_s {n : Bool} {x y : Str} : oEq n (.str x) (.str y) M q = q (.bl (if n then !decide (x = y) else decide (x = y))) M := rfl
@[simp] theorem u_oEq_b {n : Bool} {x y : Bool} : oEq n (.bl x) (.bl y) M q = q (.bl (if n then !decide (x = y) else decide (x = y))) M := rfl
@[simp] theorem u_oIs_n {n : Bool} {x : D} : oIs n x .non M q = q (.bl (if n then !isB x .non else isB x .non)) M := by simp [oIs]
@[simp] theorem u_oIs_b {n k : Bool} {x : D} : oIs n x (.bl k) M q = q (.bl (if n then !isB x (.bl k) else isB x (.bl k))) M := by simp [oIs]
@[simp] theorem u_isB_tn {x : List D} : isB (.tup x) .non = false := rfl
@[simp] theorem u_isB_in {x : Int} : isB (.int x) .non = false := rfl
@[simp] theorem u_isB_bn {x : Bool} : isB (.bl x) .non = false := rfl
@[simp] theorem u_isB_rn {x : Addr} : isB (.ref x) .non = false := rfl
@[simp] theorem u_isB_nn : isB .non .non = true := rfl
@[simp] theorem u_isB_bb {x y : Bool} : isB (.bl x) (.bl y) = decide (x = y) := rfl
@[simp] theorem u_oIx2_t {xs : List D} {y : Int} : oIx2 (.tup xs) (.int y) M q = ∃ d, atI xs y = some d ∧ q d M := by simp [oIx2]
@[simp] theorem u_oIx2_l {xs : List D} {y : Int} : oIx2 (.rol xs) (.int y) M q = ∃ d, atI xs y = some d ∧ q d M := by simp [oIx2]
theorem u_oIx2_r {xs : List D} {x : Addr} {y : Int} (h : M x = some (.lst xs)) : oIx2 (.ref x) (.int y) M q = ∃ d, atI xs y = some d ∧ q d M := by simp [oIx2, h]
theorem atI_of {α : Type} {xs : List α} {i : Nat} {x : α} (h : xs[i]? = some x) : atI xs (i : Int) = some x := by
  have hl : i < xs.length := by
    rcases Nat.lt_or_ge i xs.length with h1 | h1
    · exact h1
    · rw [List.getElem?_eq_none h1] at h; cases h
  unfold atI ixN
  rw [if_pos (by omega), if_pos (by omega)]
  simpa using h
@[simp] theorem atI0 {α : Type} {x : α} {l : List α} : atI (x :: l) 0 = some x := atI_of (i := 0) rfl
@[simp] theorem atI1 {α : Type} {x y : α} {l : List α} : atI (x :: y :: l) 1 = some y := atI_of (i := 1) rfl
@[simp] theorem atI2 {α : Type} {x y z : α} {l : List α} : atI (x :: y :: z :: l) 2 = some z := atI_of (i := 2) rfl
@[simp] theorem atI3 {α : Type} {x y z w : α} {l : List α} : atI (x :: y :: z :: w :: l) 3 = some w := atI_of (i := 3) rfl
/-! functions -/
@[simp] theorem u_bLen2 {d : D} : bLen2 [d] M q = ∃ n, lenOf2 M d = some n ∧ strOk d ∧ q (.int n) M := rfl
@[simp] theorem u_lenOf2_t {xs : List D} : lenOf2 M (.tup xs) = some xs.length := rfl
@[simp] theorem u_lenOf2_l {xs : List D} : lenOf2 M (.rol xs) = some xs.length := rfl
theorem u_lenOf2_r {xs : List D} {x : Addr} (h : M x = some (.lst xs)) : lenOf2 M (.ref x) = some xs.length := by simp [lenOf2, walkOf, h]
@[simp] theorem u_strOk_t {xs : List D} : strOk (.tup xs) = True := rfl
@[simp] theorem u_strOk_l {xs : List D} : strOk (.rol xs) = True := rfl
@[simp] theorem u_strOk_r {x : Addr} : strOk (.ref x) = True := rfl
@[simp] theorem u_bIsi {d : D} {n : String} : bIsi [d, .ty n] M q = ∃ t r, tyOf M d = some t ∧ kitB t n = some r ∧ q (.bl r) M := rfl
@[simp] theorem u_bInt_i {x : Int} : bInt [.int x] M q = q (.int x) M := rfl
@[simp] theorem u_bInt_b {x : Bool} : bInt [.bl x] M q = q (.int (if x then 1 else 0)) M := rfl
@[simp] theorem u_bAbs {x : Int} : bAbs [.int x] M q = q (.int (if x < 0 then -x else x)) M := rfl
@[simp] theorem u_bMax2 {x y : Int} : bMax2 [.int x, .int y] M q = q (.int (if y > x then y else x)) M := rfl
@[simp] theorem u_bMin2 {x y : Int} : bMin2 [.int x, .int y] M q = q (.int (if y < x then y else x)) M := rfl
@[simp] theorem u_bTuple {d : D} : bTuple [d] M q = ∃ xs, itemsOf M d = some xs ∧ q (.tup xs) M := rfl
@[simp] theorem u_items_t {xs : List D} : itemsOf M (.tup xs) = some xs := rfl
theorem u_items_r {xs : List D} {x : Addr} (h : M x = some (.lst xs)) : itemsOf M (.ref x) = some xs := by simp [itemsOf, lsOf, h]
@[simp] theorem u_bList2 {d : D} : bList2 [d] M q = ∃ xs, walkOf M d = some xs ∧ ∀ p, M p = none → q (.ref p) (mset M p (.lst xs)) := rfl
@[simp] theorem u_bAll {d : D} : bAll [d] M q = ∃ bs : List Bool, lsOf M d = some (bs.map D.bl) ∧ q (.bl (bs.all id)) M := rfl
@[simp] theorem u_bAny {d : D} : bAny [d] M q = ∃ bs : List Bool, lsOf M d = some (bs.map D.bl) ∧ q (.bl (bs.any id)) M := rfl
theorem u_ls_r {xs : List D} {x : Addr} (h : M x = some (.lst xs)) : lsOf M (.ref x) = some xs := by simp [lsOf, h]
@[simp] theorem u_bSorted {d : D} : bSorted [d] M q = ∃ xs ks, walkOf M d = some xs ∧ keysOf xs = some ks ∧ AllOk ks ∧ ∀ p ys, M p = none → ys.Perm xs → ys.Pairwise (fun a b => ltD b a = false) → q (.ref p) (mset M p (.lst ys)) := rfl
@[simp] theorem u_bRepr {d : D} : bRepr [d] M q = ∃ p, PD M d p ∧ p.showable = true ∧ p.depth ≤ 60 ∧ p.shown.length ≤ sizeLine ∧ (∃ xs, itemsOf M d = some xs) ∧ q (.str p.shown) M := rfl
@[simp] theorem u_mt {f : D1L} {n : String} {l : DA} : rMt f n a l ex δ M q = a ex δ M fun x M1 => tyOf M1 x = some n ∧ l ex δ M1 fun xs M2 => f x xs M2 q := rfl
@[simp] theorem u_rNoP {q : Option Int → Mm → Prop} : rNoP ex δ M q = q none M := rfl
@[simp] theorem u_rPart {q : Option Int → Mm → Prop} : rPart a ex δ M q = a ex δ M fun d M1 => ∃ i, d = .int i ∧ q (some i) M1 := rfl
@[simp] theorem u_rCut {x y : DO} : rCut a x y ex δ M q = a ex δ M fun z M1 => x ex δ M1 fun lo M2 => y ex δ M2 fun hi M3 => cutK z lo hi M3 q := rfl
@[simp] theorem u_cutK_t {xs : List D} {lo hi : Option Int} : cutK (.tup xs) lo hi M q = q (.tup (cutD xs lo hi)) M := rfl
@[simp] theorem u_cutK_l {xs : List D} {lo hi : Option Int} : cutK (.rol xs) lo hi M q = ∀ p, M p = none → q (.ref p) (mset M p (.lst (cutD xs lo hi))) := by
  apply propext
  constructor
  · rintro ⟨_, e, h⟩; cases e; exact h
  · exact fun h => ⟨_, rfl, h⟩
@[simp] theorem u_rDct0 : rDct0 ex δ M q = ∀ p, M p = none → q (.ref p) (mset M p (.dct [])) := rfl
@[simp] theorem u_rDct1 : rDct1 a b ex δ M q = ∀ p, M p = none → a ex δ (mset M p (.dct [])) fun d M1 => b ex δ M1 fun v M2 => (isTupD d = true ∧ ∃ k, keyOf d = some k ∧ k.depth ≤ 8) ∧ M2 p = some (.dct []) ∧ q (.ref p) (mset M2 p (.dct [(d, v)])) := rfl
/-! what is walked -/
@[simp] theorem u_rItV {q : ItD → Mm → Prop} : rItV a ex δ M q = a ex δ M fun d M1 => ∃ J, itOf M1 d = some J ∧ q J M1 := rfl
@[simp] theorem u_itOf_t {xs : List D} : itOf M (.tup xs) = some ⟨xs, fun _ => True⟩ := rfl
@[simp] theorem u_itOf_l {xs : List D} : itOf M (.rol xs) = some ⟨xs, fun _ => True⟩ := rfl
theorem u_itOf_r {xs : List D} {x : Addr} (h : M x = some (.lst xs)) : itOf M (.ref x) = some ⟨xs, fun M' => M' x = some (.lst xs)⟩ := by simp [itOf, h]
@[simp] theorem u_rItR1 {q : ItD → Mm → Prop} : rItR1 l ex δ M q = l ex δ M fun ds M1 => ∃ j : Int, ds = [.int j] ∧ -(2 ^ 62) ≤ j ∧ j < 2 ^ 62 ∧ q ⟨rangeD 0 j.toNat, fun _ => True⟩ M1 := rfl
def r2Q (ds : List D) (M : Mm) (q : ItD → Mm → Prop) : Prop := ∃ i j : Int, ds = [.int i, .int j] ∧ (-(2 ^ 62) ≤ i ∧ i < 2 ^ 62 ∧ -(2 ^ 62) ≤ j ∧ j < 2 ^ 62) ∧ q ⟨rangeD i (j - i).toNat, fun _ => True⟩ M
@[simp] theorem u_rItR2 {q : ItD → Mm → Prop} : rItR2 l ex δ M q = l ex δ M fun ds M1 => r2Q ds M1 q := rfl
@[simp] theorem u_r2Q {i j : Int} {q : ItD → Mm → Prop} : r2Q [.int i, .int j] M q = ((-(2 ^ 62) ≤ i ∧ i < 2 ^ 62 ∧ -(2 ^ 62) ≤ j ∧ j < 2 ^ 62) ∧ q ⟨rangeD i (j - i).toNat, fun _ => True⟩ M) := by
  apply propext
  constructor
  · rintro ⟨_, _, e, h1, h⟩; cases e; exact ⟨h1, h⟩
  · rintro ⟨h1, h⟩; exact ⟨_, _, rfl, h1, h⟩
def zipQ (ds : List D) (M : Mm) (q : ItD → Mm → Prop) : Prop := ∃ x y J L, ds = [x, y] ∧ srcOf M x = some J ∧ srcOf M y = some L ∧ q ⟨zipD J.items L.items, fun M' => J.keep M' ∧ L.keep M'⟩ M
@[simp] theorem u_rItZ {q : ItD → Mm → Prop} : rItZ l ex δ M q = l ex δ M fun ds M1 => zipQ ds M1 q := rfl
@[simp] theorem u_zipQ {x y : D} {q : ItD → Mm → Prop} : zipQ [x, y] M q = ∃ J, srcOf M x = some J ∧ ∃ L, srcOf M y = some L ∧ q ⟨zipD J.items L.items, fun M' => J.keep M' ∧ L.keep M'⟩ M := by
  apply propext
  constructor
  · rintro ⟨_, _, J, L, e, h1, h2, h⟩; cases e; exact ⟨J, h1, L, h2, h⟩
  · rintro ⟨J, h1, L, h2, h⟩; exact ⟨_, _, J, L, rfl, h1, h2, h⟩
@[simp] theorem u_rItE {q : ItD → Mm → Prop} : rItE l ex δ M q = l ex δ M fun ds M1 => ∃ x J, ds = [x] ∧ srcOf M1 x = some J ∧ q ⟨enumD 0 J.items, J.keep⟩ M1 := rfl
@[simp] theorem u_src_t {xs : List D} : srcOf M (.tup xs) = some ⟨xs, fun _ => True⟩ := rfl
theorem u_src_r {xs : List D} {x : Addr} (h : M x = some (.lst xs)) : srcOf M (.ref x) = some ⟨xs, fun M' => M' x = some (.lst xs)⟩ := by simp [srcOf, itOf, h]
end
@[simp] theorem kit_int_int : kitB "int" "int" = some true := by decide +kernel
@[simp] theorem kit_int_bool : kitB "int" "bool" = some false := by decide +kernel
@[simp] theorem kit_int_tuple : kitB "int" "tuple" = some false := by decide +kernel
@[simp] theorem kit_int_list : kitB "int" "list" = some false := by decide +kernel
@[simp] theorem kit_int_str : kitB "int" "str" = some false := by decide +kernel
@[simp] theorem kit_bool_int : kitB "bool" "int" = some true := by decide +kernel
@[simp] theorem kit_bool_bool : kitB "bool" "bool" = some true := by decide +kernel
@[simp] theorem kit_bool_tuple : kitB "bool" "tuple" = some false := by decide +kernel
@[simp] theorem kit_bool_list : kitB "bool" "list" = some false := by decide +kernel
@[simp] theorem kit_bool_str : kitB "bool" "str" = some false := by decide +kernel
@[simp] theorem kit_tuple_int : kitB "tuple" "int" = some false := by decide +kernel
@[simp] theorem kit_tuple_bool : kitB "tuple" "bool" = some false := by decide +kernel
@[simp] theorem kit_tuple_tuple : kitB "tuple" "tuple" = some true := by decide +kernel
@[simp] theorem kit_tuple_list : kitB "tuple" "list" = some false := by decide +kernel
@[simp] theorem kit_tuple_str : kitB "tuple" "str" = some false := by decide +kernel
@[simp] theorem kit_list_int : kitB "list" "int" = some false := by decide +kernel
@[simp] theorem kit_list_bool : kitB "list" "bool" = some false := by decide +kernel
@[simp] theorem kit_list_tuple : kitB "list" "tuple" = some false := by decide +kernel
@[simp] theorem kit_list_list : kitB "list" "list" = some true := by decide +kernel
@[simp] theorem kit_list_str : kitB "list" "str" = some false := by decide +kernel
@[simp] theorem kit_str_int : kitB "str" "int" = some false := by decide +kernel
@[simp] theorem kit_str_bool : kitB "str" "bool" = some false := by decide +kernel
@[simp] theorem kit_str_tuple : kitB "str" "tuple" = some false := by decide +kernel
@[simp] theorem kit_str_list : kitB "str" "list" = some false := by decide +kernel
@[simp] theorem kit_str_str : kitB "str" "str" = some true := by decide +kernel
@[simp] theorem kit_NoneType_int : kitB "NoneType" "int" = some false := by decide +kernel
@[simp] theorem kit_NoneType_bool : kitB "NoneType" "bool" = some false := by decide +kernel
@[simp] theorem kit_NoneType_tuple : kitB "NoneType" "tuple" = some false := by decide +kernel
@[simp] theorem kit_NoneType_list : kitB "NoneType" "list" = some false := by decide +kernel
@[simp] theorem kit_NoneType_str : kitB "NoneType" "str" = some false := by decide +kernel
@[simp] theorem ty_non {M : Mm} : tyOf M .non = some "NoneType" := rfl
@[simp] theorem ty_bl {M : Mm} {b : Bool} : tyOf M (.bl b) = some "bool" := rfl
@[simp] theorem ty_int {M : Mm} {i : Int} : tyOf M (.int i) = some "int" := rfl
@[simp] theorem ty_str {M : Mm} {x : Str} : tyOf M (.str x) = some "str" := rfl
@[simp] theorem ty_tup {M : Mm} {xs : List D} : tyOf M (.tup xs) = some "tuple" := rfl
@[simp] theorem ty_rol {M : Mm} {xs : List D} : tyOf M (.rol xs) = some "list" := rfl
theorem ty_ref {M : Mm} {a : Addr} {xs : List D} (h : M a = some (.lst xs)) : tyOf M (.ref a) = some "list" := by simp [tyOf, h]
/-! loops: what is walked is known -/
def ForD (g : DG) (b : DS) (ex : EK) (K : DEnds) (δ : DSt) (J : ItD) (M : Mm) : Prop := ∃ I : Nat → DSt → Mm → Prop, I 0 δ M ∧ (∀ i δ M, I i δ M → J.keep M) ∧
  (∀ i d δ M, J.items[i]? = some d → I i δ M → g d ex δ M fun δ2 M2 => b ex { K with nx := Wk (I (i + 1)), ct := Wk (I (i + 1)), bk := K.nx } δ2 M2) ∧ ∀ δ M, I J.items.length δ M → K.nx δ M
def LcD (vs : List Nat) (g : DG) (t : DT) (e : DE) (ex : EK) (δ : DSt) (J : ItD) (M1 : Mm) (q : Kd) : Prop := ∀ p, M1 p = none → ∃ I : Nat → Mm → Prop, I 0 (mset M1 p (.lst [])) ∧ (∀ i M, I i M → J.keep M) ∧
  (∀ i d M, J.items[i]? = some d → I i M → g d ex (wipeG δ vs) M fun δ2 M2 => t ex δ2 M2 fun c M3 => if c = true then e ex δ2 M3 fun y M4 => ∃ acc, M4 p = some (.lst acc) ∧ acc.length < sizeLine ∧ Wm (I (i + 1)) (mset M4 p (.lst (acc ++ [y]))) else Wm (I (i + 1)) M3) ∧
  ∀ M, I J.items.length M → q (.ref p) M
def AgD (stop : Bool) (n : Nat) (caps : List Nat) (g : DG) (e : DE) (ex : EK) (δ : DSt) (J : ItD) (M1 : Mm) (q : Kd) : Prop := ∃ I : Nat → Mm → Prop, I 0 M1 ∧ (∀ i M, I i M → J.keep M) ∧
  (∀ i d M, J.items[i]? = some d → I i M → g d ex (gin n caps δ) M fun δ2 M2 => e ex δ2 M2 fun x M3 => ∃ b, x = .bl b ∧ if b = stop then q (.bl stop) M3 else Wm (I (i + 1)) M3) ∧
  ∀ M, I J.items.length M → q (.bl (!stop)) M
def WhD (t : DT) (b : DS) (ex : EK) (K : DEnds) (δ : DSt) (M : Mm) : Prop := rWhile t b ex K δ M
section
variable {ex : EK} {δ : DSt} {M : Mm} {q : Kd} {K : DEnds} {w : DI} {g : DG} {b : DS} {e : DE} {t : DT}
@[simp] theorem u_rFor : rFor w g b ex K δ M = w ex δ M fun J M1 => ForD g b ex K δ J M1 := rfl
@[simp] theorem u_rLc {vs : List Nat} : rLc vs w g t e ex δ M q = w ex δ M fun J M1 => LcD vs g t e ex δ J M1 q := rfl
@[simp] theorem u_rAG {stop : Bool} {n : Nat} {caps : List Nat} : rAG stop n caps w g e ex δ M q = w ex δ M fun J M1 => AgD stop n caps g e ex δ J M1 q := rfl
@[simp] theorem u_rYes {q : Bool → Mm → Prop} : rYes ex δ M q = q true M := rfl
theorem mem_get {α : Type} {xs : List α} {i : Nat} {x : α} (h : xs[i]? = some x) : x ∈ xs := List.mem_of_getElem? h
theorem take_get {α : Type} {xs : List α} {i : Nat} {x : α} (h : xs[i]? = some x) : xs.take (i + 1) = xs.take i ++ [x] := by
  rw [List.take_add_one, h]; rfl
/-- all(..) whose tests change nothing -/
theorem ag_all {n : Nat} {caps : List Nat} {J : ItD} (f : D → Bool) (hk : J.keep M) (he : ∀ d q', d ∈ J.items → q' (.bl (f d)) M → g d ex (gin n caps δ) M fun δ2 M2 => e ex δ2 M2 q') (h : q (.bl (J.items.all f)) M) :
    AgD false n caps g e ex δ J M q := by
  refine ⟨fun j M' => M' = M ∧ (J.items.take j).all f = true, ⟨rfl, by simp⟩, fun _ _ z => z.1 ▸ hk, fun j d M' hd z => ?_, fun M' z => ?_⟩
  · obtain ⟨e1, ha⟩ := z
    subst e1
    refine he d _ (mem_get hd) ⟨f d, rfl, ?_⟩
    cases q1 : f d with
    | false =>
      rw [if_pos rfl]
      have : J.items.all f = false := by rw [List.all_eq_false]; exact ⟨d, mem_get hd, by simp [q1]⟩
      rwa [this] at h
    | true =>
      rw [if_neg (by decide)]
      refine Wm.of ⟨rfl, ?_⟩
      rw [take_get hd, List.all_append, ha]; simp [q1]
  · obtain ⟨e1, ha⟩ := z
    subst e1
    rw [List.take_length] at ha
    rwa [ha] at h
theorem ag_any {n : Nat} {caps : List Nat} {J : ItD} (f : D → Bool) (hk : J.keep M) (he : ∀ d q', d ∈ J.items → q' (.bl (f d)) M → g d ex (gin n caps δ) M fun δ2 M2 => e ex δ2 M2 q') (h : q (.bl (J.items.any f)) M) :
    AgD true n caps g e ex δ J M q := by
  refine ⟨fun j M' => M' = M ∧ (J.items.take j).any f = false, ⟨rfl, by simp⟩, fun _ _ z => z.1 ▸ hk, fun j d M' hd z => ?_, fun M' z => ?_⟩
  · obtain ⟨e1, ha⟩ := z
    subst e1
    refine he d _ (mem_get hd) ⟨f d, rfl, ?_⟩
    cases q1 : f d with
    | true =>
      rw [if_pos rfl]
      have : J.items.any f = true := by rw [List.any_eq_true]; exact ⟨d, mem_get hd, q1⟩
      rwa [this] at h
    | false =>
      rw [if_neg (by decide)]
      refine Wm.of ⟨rfl, ?_⟩
      rw [take_get hd, List.any_append, ha]; simp [q1]
  · obtain ⟨e1, ha⟩ := z
    subst e1
    rw [List.take_length] at ha
    rwa [ha] at h
/-- a loop by its invariant -/
theorem for_by {J : ItD} (I : Nat → DSt → Mm → Prop) (h0 : I 0 δ M) (hk : ∀ i δ M, I i δ M → J.keep M)
    (hs : ∀ i d δ M, J.items[i]? = some d → I i δ M → g d ex δ M fun δ2 M2 => b ex { K with nx := Wk (I (i + 1)), ct := Wk (I (i + 1)), bk := K.nx } δ2 M2) (he : ∀ δ M, I J.items.length δ M → K.nx δ M) : ForD g b ex K δ J M := ⟨I, h0, hk, hs, he⟩
/-- [e for g in J] whose elements change nothing -/
theorem lc_map {vs : List Nat} {J : ItD} (f : D → D) (hl : J.items.length ≤ sizeLine) (hk : ∀ p o, M p = none → J.keep (mset M p o))
    (he : ∀ d q' p o, d ∈ J.items → M p = none → q' (f d) (mset M p o) → g d ex (wipeG δ vs) (mset M p o) fun δ2 M2 => e ex δ2 M2 q')
    (h : ∀ p, M p = none → q (.ref p) (mset M p (.lst (J.items.map f)))) : LcD vs g rYes e ex δ J M q := by
  intro p hp
  refine ⟨fun j M' => M' = mset M p (.lst ((J.items.take j).map f)), by simp, fun _ _ z => z ▸ hk _ _ hp, fun j d M' hd z => ?_, fun M' z => ?_⟩
  · subst z
    have hj : j < J.items.length := by
      rcases Nat.lt_or_ge j J.items.length with h1 | h1
      · exact h1
      · rw [List.getElem?_eq_none h1] at hd; cases hd
    exact he d (fun y M4 => ∃ acc, M4 p = some (.lst acc) ∧ acc.length < sizeLine ∧ Wm (fun M' => M' = mset M p (.lst ((J.items.take (j + 1)).map f))) (mset M4 p (.lst (acc ++ [y])))) p (.lst ((J.items.take j).map f)) (mem_get hd) hp
      ⟨_, mset_same, by rw [List.length_map, List.length_take]; omega, Wm.of (by rw [mset_mset, take_get hd, List.map_append]; rfl)⟩
  · subst z
    rw [List.take_length]
    exact h p hp
end
end Lk
set_option Elab.async false
set_option linter.all false
set_option maxRecDepth 100000
set_option maxHeartbeats 1000000
/-! Lark, part 19: cuts, == of tuples, while by its invariant. -/
namespace Lk
open PySem PySem.Spec PyProof.Rows L2
@[simp] theorem sz_1 : 1 ≤ sizeLine := by decide
@[simp] theorem sz_2 : 2 ≤ sizeLine := by decide
@[simp] theorem sz_3 : 3 ≤ sizeLine := by decide
@[simp] theorem sz_4 : 4 ≤ sizeLine := by decide
@[simp] theorem sz_5 : 5 ≤ sizeLine := by decide
@[simp] theorem sz_6 : 6 ≤ sizeLine := by decide
@[simp] theorem sz_7 : 7 ≤ sizeLine := by decide
@[simp] theorem sz_8 : 8 ≤ sizeLine := by decide
theorem cutD_from {xs : List D} {k : Nat} : cutD xs (some (k : Int)) none = xs.drop k := by
  unfold cutD HT.sIx
  simp only [if_neg (show ¬ ((k : Int) < 0) by omega), Int.toNat_natCast]
  rcases Nat.le_total k xs.length with h | h
  · rw [Nat.min_eq_left h, List.take_of_length_le (by simp)]
  · rw [Nat.min_eq_right h, List.drop_of_length_le (Nat.le_refl _), List.drop_of_length_le h]; simp
theorem cutD_to {xs : List D} {k : Nat} : cutD xs none (some (k : Int)) = xs.take k := by
  unfold cutD HT.sIx
  simp only [if_neg (show ¬ ((k : Int) < 0) by omega), Int.toNat_natCast, List.drop_zero, Nat.sub_zero]
  rcases Nat.le_total k xs.length with h | h
  · rw [Nat.min_eq_left h]
  · rw [Nat.min_eq_right h, List.take_of_length_le (Nat.le_refl _), List.take_of_length_le h]
@[simp] theorem cutD_1 {xs : List D} : cutD xs (some 1) none = xs.drop 1 := cutD_from (k := 1)
@[simp] theorem cutD_t1 {xs : List D} : cutD xs none (some 1) = xs.take 1 := cutD_to (k := 1)
@[simp] theorem cutD_init {xs : List D} : cutD xs none (some (-1)) = xs.dropLast := by
  unfold cutD HT.sIx
  simp only [if_pos (show (-1 : Int) < 0 by omega), List.drop_zero, Nat.sub_zero]
  rw [List.dropLast_eq_take]
  congr 1; omega
@[simp] theorem cutD_last {xs : List D} : cutD xs (some (-1)) none = xs.drop (xs.length - 1) := by
  unfold cutD HT.sIx
  simp only [if_pos (show (-1 : Int) < 0 by omega)]
  rw [List.take_of_length_le]
  · congr 1; omega
  · simp
theorem noBls_int : ∀ w : List Int, noBls (w.map D.int) = true
  | [] => rfl
  | _ :: w => noBls_int w
theorem dpDs_int : ∀ w : List Int, dpDs (w.map D.int) = 0
  | [] => rfl
  | x :: w => by show max 0 (dpDs (w.map D.int)) = 0; rw [dpDs_int w]; rfl
theorem int_inj {v w : List Int} : v.map D.int = w.map D.int ↔ v = w := ⟨fun h => List.map_inj_right (fun a b e => by cases e; rfl) |>.mp h, fun h => h ▸ rfl⟩
section
variable {M : Mm} {q : Kd} {neg b : Bool}
theorem oEq_tup {xs ys : List D} (h1 : noBls xs = true) (h2 : noBls ys = true) (k1 : dpDs xs < 64) (k2 : dpDs ys < 64) (hb : b = true ↔ xs = ys) (h : q (.bl (if neg then !b else b)) M) : oEq neg (.tup xs) (.tup ys) M q := by
  have p1 : isPl (.tup xs) = true := noBl_pl (d := .tup xs) h1
  have p2 : isPl (.tup ys) = true := noBl_pl (d := .tup ys) h2
  refine ⟨_, _, pd_pl M p1, pd_pl M p2, shaped_pl p1 (by show dpDs xs + 1 ≤ 64; omega), shaped_pl p2 (by show dpDs ys + 1 ≤ 64; omega), ?_⟩
  rw [eqv_py p1 p2]
  have e : eqD (.tup xs) (.tup ys) = b := by
    have := eqD_iff (d := .tup xs) (e := .tup ys) h1 h2
    rw [Bool.eq_iff_iff, this, hb]; simp
  rw [e]; exact h
theorem oEq_ints {v w : List Int} (h : q (.bl (if neg then !decide (v = w) else decide (v = w))) M) : oEq neg (.tup (v.map D.int)) (.tup (w.map D.int)) M q :=
  oEq_tup (noBls_int v) (noBls_int w) (by rw [dpDs_int]; decide) (by rw [dpDs_int]; decide) (by rw [decide_eq_true_iff, int_inj]) h
theorem oIn2_13 {n : Int} (h : q (.bl (if neg then !(n == 1 || n == 3) else (n == 1 || n == 3))) M) : oIn2 neg (.int n) (.tup [.int 1, .int 3]) M q := by
  refine .inl ⟨_, .int n, [.int 1, .int 3], rfl, .int n, .cons (.int 1) (.cons (.int 3) .nil), rfl, rfl, ?_⟩
  have e : (([PyData.int 1, PyData.int 3] : List PyData).any fun z => PyData.eqv z (.int n)) = (n == 1 || n == 3) := by
    show (((1 : Int) == n) || (((3 : Int) == n) || false)) = _
    rw [Bool.or_false, Bool.beq_comm (a := (1 : Int)), Bool.beq_comm (a := (3 : Int))]
  rw [e]; exact h
end
theorem while_by {t : DT} {b : DS} {ex : EK} {K : DEnds} {δ : DSt} {M : Mm} (I : Nat → DSt → Mm → Prop) {m : Nat} (h0 : I m δ M)
    (hs : ∀ m δ M, I m δ M → t ex δ M fun c M1 => if c = true then b ex { K with nx := Wk fun δ' M' => ∃ m', m' < m ∧ I m' δ' M', ct := Wk fun δ' M' => ∃ m', m' < m ∧ I m' δ' M', bk := K.nx } δ M1 else K.nx δ M1) : rWhile t b ex K δ M := ⟨I, ⟨m, h0⟩, hs⟩
end Lk
set_option Elab.async false
set_option linter.all false
set_option maxRecDepth 100000
set_option maxHeartbeats 1000000
/-! Lark, part 20: how long repr's text is, over plain data of ints. -/
namespace Lk
open PySem PySem.Spec PyProof PyProof.Rows L2
mutual
/-- the weight of plain data: no less than its text's length -/
def wt : D → Nat
  | .int i => ((toString i : String) : Str).length
  | .tup xs => wts xs + 3
  | _ => 0
def wts : List D → Nat
  | [] => 0
  | x :: xs => wt x + 2 + wts xs
end
mutual
/-- ints and tuples of such, the ints short -/
def isIn : D → Bool
  | .int i => decide (i.natAbs.log2 < 1920)
  | .tup xs => isIns xs
  | _ => false
def isIns : List D → Bool
  | [] => true
  | x :: xs => isIn x && isIns xs
end
theorem tup_len (ts : List Str) : (tupleText ts).length ≤ piled ts + 3 := by
  unfold tupleText
  rw [strLen_append, strLen_append]
  have e1 : ((("(" : String) : Str)).length = 1 := rfl
  have e3 : (((if ts.length == 1 then ",)" else ")" : String) : Str)).length ≤ 2 := by split <;> decide
  rw [e1]
  by_cases h : ts = []
  · subst h
    show 1 + 0 + _ ≤ _
    omega
  · have := join_length_add ts h
    omega
theorem lst_len (ts : List Str) : (listText ts).length ≤ piled ts + 3 := by
  unfold listText
  rw [strLen_append]
  have e2 : ((("]" : String) : Str)).length = 1 := rfl
  rw [e2]
  cases ts with
  | nil => decide
  | cons t ts =>
    show (textFrom 1 (("[" : Str) ++ ("" : Str) ++ t) ts).length + 1 ≤ _
    rw [textFrom_length_pos ts 1 _ (by decide), strLen_append, strLen_append, piled_cons]
    have e1 : ((("[" : String) : Str)).length = 1 := rfl
    have e0 : ((("" : String) : Str)).length = 0 := rfl
    rw [e1, e0]
    omega
mutual
theorem shown_wt : ∀ {d : D}, isIn d = true → (toPy d).shown.length ≤ wt d
  | .int i, _ => by rw [toPy, PyData.shown, wt]; exact Nat.le_refl _
  | .tup xs, h => by
    rw [toPy, PyData.shown, wt]
    exact Nat.le_trans (tup_len _) (Nat.add_le_add_right (showns_wt (d := xs) h) 3)
  | .non, h => by cases h
  | .bl _, h => by cases h
  | .str _, h => by cases h
  | .ref _, h => by cases h
  | .ty _, h => by cases h
  | .rol _, h => by cases h
theorem showns_wt : ∀ {d : List D}, isIns d = true → piled (PyData.shownAll (toPys d)) ≤ wts d
  | [], _ => Nat.le_refl _
  | x :: xs, h => by
    rw [isIns, Bool.and_eq_true] at h
    rw [toPys, PyData.shownAll, wts, piled_cons]
    have h1 := shown_wt h.1
    have h2 := showns_wt h.2
    omega
end
mutual
theorem showable_in : ∀ {d : D}, isIn d = true → (toPy d).showable = true
  | .int i, h => by rw [toPy, PyData.showable]; exact h
  | .tup xs, h => by rw [toPy, PyData.showable]; exact showables_in (d := xs) h
  | .non, h => by cases h
  | .bl _, h => by cases h
  | .str _, h => by cases h
  | .ref _, h => by cases h
  | .ty _, h => by cases h
  | .rol _, h => by cases h
theorem showables_in : ∀ {d : List D}, isIns d = true → PyData.showableAll (toPys d) = true
  | [], _ => rfl
  | x :: xs, h => by
    rw [isIns, Bool.and_eq_true] at h
    rw [toPys, PyData.showableAll, showable_in h.1, showables_in h.2]; rfl
end
mutual
theorem in_nb : ∀ {d : D}, isIn d = true → noBl d = true
  | .int i, h => rfl
  | .tup xs, h => by rw [noBl]; exact ins_nb (d := xs) h
  | .non, h => by cases h
  | .bl _, h => by cases h
  | .str _, h => by cases h
  | .ref _, h => by cases h
  | .ty _, h => by cases h
  | .rol _, h => by cases h
theorem ins_nb : ∀ {d : List D}, isIns d = true → noBls d = true
  | [], _ => rfl
  | x :: xs, h => by
    rw [isIns, Bool.and_eq_true] at h
    rw [noBls, in_nb h.1, ins_nb h.2]; rfl
end
/-- repr of a list of plain data -/
theorem repr_lst {M : Mm} {q : Kd} {a : Addr} {xs : List D} (ha : M a = some (.lst xs)) (h : isIns xs = true) (hd : dpDs xs < 59) (hw : wts xs + 3 ≤ sizeLine) (hq : q (.str (PyData.shown (.list (toPys xs)))) M) : bRepr [.ref a] M q := by
  refine ⟨.list (toPys xs), .lst ha (pds_pl M (noBls_pl (ins_nb h))), ?_, ?_, ?_, ⟨xs, u_items_r ha⟩, hq⟩
  · rw [PyData.showable]; exact showables_in h
  · rw [PyData.depth]; have := depth_pys xs; omega
  · rw [PyData.shown]; exact Nat.le_trans (lst_len _) (Nat.le_trans (Nat.add_le_add_right (showns_wt h) 3) hw)
theorem wts_map {α : Type} {c : α → D} {n : Nat} : ∀ {as : List α}, (∀ a ∈ as, wt (c a) ≤ n) → wts (as.map c) ≤ as.length * (n + 2)
  | [], _ => Nat.zero_le _
  | a :: as, h => by
    rw [List.map_cons, wts, List.length_cons, Nat.succ_mul]
    have h1 := h a List.mem_cons_self
    have h2 := wts_map (as := as) fun b hb => h b (List.mem_cons_of_mem _ hb)
    omega
theorem isIns_map {α : Type} {c : α → D} : ∀ {as : List α}, (∀ a ∈ as, isIn (c a) = true) → isIns (as.map c) = true
  | [], _ => rfl
  | a :: as, h => by rw [List.map_cons, isIns, h a List.mem_cons_self, isIns_map fun b hb => h b (List.mem_cons_of_mem _ hb)]; rfl
theorem wt_small {i : Int} (h0 : 0 ≤ i) (h1 : i < 10) : wt (.int i) ≤ 1 ∧ isIn (.int i) = true := by
  have : i = 0 ∨ i = 1 ∨ i = 2 ∨ i = 3 ∨ i = 4 ∨ i = 5 ∨ i = 6 ∨ i = 7 ∨ i = 8 ∨ i = 9 := by omega
  rcases this with rfl | rfl | rfl | rfl | rfl | rfl | rfl | rfl | rfl | rfl <;> exact ⟨by decide +kernel, by decide +kernel⟩
end Lk
set_option Elab.async false
set_option linter.all false
set_option maxRecDepth 100000
set_option maxHeartbeats 1000000
/-! Lark, part 21: a def of the top, called by its name. -/
namespace Lk
open PySem PySem.Spec PyProof.Rows L2
section
variable {P : Program} {w : World} {K : PySem.W.Frag} {T : List Addr} {mg : Str → Option Value} {base : Heap} {x : Str} {params : Arguments} {body : List Stmt} {scope : Scope} {fd : FuncData} {N ps : List Str} {k : Nat} {sp : DSp} {r : DS}
theorem cal_of (F : FunD K x x params body scope [] [] (He.fAd K (x, none)) fd) (S : FnScope N ps scope) (hm : mg x = some (.ref (He.fAd K (x, none))))
    (h : ∀ (kV doc pm : Value) (an : Option Addr) (cdv ct : Value) (us : List Value), us.length = ps.length → bindArgs (PySem.W.fnOf x x params body scope .none kV doc pm an cdv ct) ⟨us, []⟩ = pure (ps.zip us))
    (hb : ∀ (c : Addr), He.codeOf K (x, none) = c → ∀ (A : Around) (outer : List Env) (s : Shared) (H : Hp) (E : XK) (ex : EK), RoomG k (A.deeper (envOfC x scope s.heap.objs.size (He.fAd K (x, none)) (.ref c))) → SsP' (bx P w K mg base N x scope (He.fAd K (x, none)) (.ref c) A outer s H E) T ex body r)
    (pl : ∀ (ds : List D) (M : Mm) (q : Kd) (ex : EK), sp ds M q ex → r ex { nx := fun _ M' => Wq q .non M', rt := Wq q } (startD N ds) M) : Cal ⟨P, w, K, T⟩ mg base (k + 1) x ps sp := by
  refine ⟨_, fd, fnL F rfl S hb (fun ds M q ex _ h => pl ds M q ex h), hm, F.kp, ?_⟩
  obtain ⟨oc, od, dV, kV, doc, pm, an, cdv, ct, osl, rfl, lk, hcd, hD, hK⟩ := F.ex
  rcases hD with ⟨_, rfl⟩ | ⟨e, _⟩
  · exact h kV doc pm an cdv ct
  · exact absurd rfl e
theorem calK_of {ks : List Str} {pm : List Nat} (F : FunD K x x params body scope [] [] (He.fAd K (x, none)) fd) (S : FnScope N ps scope) (hm : mg x = some (.ref (He.fAd K (x, none))))
    (h : ∀ (kV doc pmo : Value) (an : Option Addr) (cdv ct : Value) (us : List Value), us.length = ks.length → bindArgs (PySem.W.fnOf x x params body scope .none kV doc pmo an cdv ct) ⟨[], ks.zip us⟩ = pure (ps.zip (permD pm us .none))) (hl : pm.length = ps.length)
    (hb : ∀ (c : Addr), He.codeOf K (x, none) = c → ∀ (A : Around) (outer : List Env) (s : Shared) (H : Hp) (E : XK) (ex : EK), RoomG k (A.deeper (envOfC x scope s.heap.objs.size (He.fAd K (x, none)) (.ref c))) → SsP' (bx P w K mg base N x scope (He.fAd K (x, none)) (.ref c) A outer s H E) T ex body r)
    (pl : ∀ (ds : List D) (M : Mm) (q : Kd) (ex : EK), sp ds M q ex → r ex { nx := fun _ M' => Wq q .non M', rt := Wq q } (startD N ds) M) : CalK ⟨P, w, K, T⟩ mg base (k + 1) x ps sp ks pm := by
  refine ⟨_, fd, fnL F rfl S hb (fun ds M q ex _ h => pl ds M q ex h), hm, F.kp, ?_, hl⟩
  obtain ⟨oc, od, dV, kV, doc, pmo, an, cdv, ct, osl, rfl, lk, hcd, hD, hK⟩ := F.ex
  rcases hD with ⟨_, rfl⟩ | ⟨e, _⟩
  · exact h kV doc pmo an cdv ct
  · exact absurd rfl e
theorem CalK.mono {W : Wd} {j k : Nat} {x : Str} {ps : List Str} {sp : DSp} {ks : List Str} {pm : List Nat} (C : CalK W mg base j x ps sp ks pm) (h : j ≤ k) : CalK W mg base k x ps sp ks pm :=
  let ⟨f, fd, F, a⟩ := C.ex; ⟨f, fd, F.mono h, a⟩
/-- a promise of nothing -/
theorem cal_no (F : FunD K x x params body scope [] [] (He.fAd K (x, none)) fd) (hm : mg x = some (.ref (He.fAd K (x, none))))
    (h : ∀ (kV doc pm : Value) (an : Option Addr) (cdv ct : Value) (us : List Value), us.length = ps.length → bindArgs (PySem.W.fnOf x x params body scope .none kV doc pm an cdv ct) ⟨us, []⟩ = pure (ps.zip us)) : Cal ⟨P, w, K, T⟩ mg base 0 x ps (fun _ _ _ _ => False) := by
  refine ⟨_, fd, ⟨fun A outer s H args us vs ds M q ex hr e0 hbi rv hd hl hM hsp => hsp.elim⟩, hm, F.kp, ?_⟩
  obtain ⟨oc, od, dV, kV, doc, pm, an, cdv, ct, osl, rfl, lk, hcd, hD, hK⟩ := F.ex
  rcases hD with ⟨_, rfl⟩ | ⟨e, _⟩
  · exact h kV doc pm an cdv ct
  · exact absurd rfl e
end
end Lk
set_option Elab.async false
set_option linter.all false
set_option maxRecDepth 100000
set_option maxHeartbeats 1000000
/-! Lark, part 22: xs[::-1] of a list or a tuple. -/
namespace Lk
open PySem PySem.Spec PyProof.Rows L2 HT
section
variable {prog : Program} {w : World} {A : Around} {E : Value → Shared → Prop} {s : Shared}
theorem sliceApplied_rev {sl : Addr} {vl vu vs : Value} {n : Nat} {Q : Int × Int × Nat → Shared → Prop} (hs : s.heap.IsSliceOf sl vl vu vs) (pl : IsPart vl none) (pu : IsPart vu none) (ps : IsPart vs (some (-1)))
    (h : Q ((n : Int) - 1, -1, n) s) : wpAny (model prog w) A (Builtin.Slice.sliceApplied (.ref sl) (pure (n : Int))) Q E s := by
  obtain ⟨os, hos, hcs, hds⟩ := id hs
  unfold Builtin.Slice.sliceApplied Builtin.Slice.sliceFields
  refine wpAny_bind (wpAny_bind (wpAny_field hos hds (x := vl) rfl (wpAny_bind (wpAny_field hos hds (x := vu) rfl (wpAny_bind (wpAny_field hos hds (x := vs) rfl (wpAny_pure ?_)))))))
  refine wpAny_bind (slicePart_ ps ?_)
  show wpAny _ _ (if ((-1 : Int) == 0) = true then _ else _) _ _ s
  rw [if_neg (by decide)]
  refine wpAny_bind (slicePart_ pl (wpAny_bind (slicePart_ pu (wpAny_bind (wpAny_pure ?_)))))
  show wpAny _ _ (match Builtin.Slice.sliceAdjust none none (-1) (n : Int) with | (lo, hi) => pure (lo, (-1 : Int), Builtin.Slice.slicePlaces lo hi (-1))) _ _ s
  have e : Builtin.Slice.sliceAdjust none none (-1) (n : Int) = ((n : Int) - 1, -1) := rfl
  rw [e]
  show wpAny _ _ (pure ((n : Int) - 1, (-1 : Int), Builtin.Slice.slicePlaces ((n : Int) - 1) (-1) (-1))) _ _ s
  have e2 : Builtin.Slice.slicePlaces ((n : Int) - 1) (-1) (-1) = n := by
    unfold Builtin.Slice.slicePlaces
    rw [if_neg (by decide)]
    split
    · rw [show (- -1 : Int) = 1 by decide, Int.ediv_one]; omega
    · omega
  rw [e2]
  exact wpAny_pure h
theorem pick_rev (xs : Array Value) : ((List.range xs.size).filterMap fun (m : Nat) => xs[((xs.size : Int) - 1 + (m : Int) * (-1)).toNat]?).toArray = xs.toList.reverse.toArray := by
  have e : ((List.range xs.size).filterMap fun (m : Nat) => xs[((xs.size : Int) - 1 + (m : Int) * (-1)).toNat]?) = ((List.range xs.size).map fun k => xs.size - 1 - k).filterMap (xs[·]?) := by
    rw [List.filterMap_map]
    have key : ∀ l : List Nat, (∀ m ∈ l, m < xs.size) → (l.filterMap fun (m : Nat) => xs[((xs.size : Int) - 1 + (m : Int) * (-1)).toNat]?) = l.filterMap ((fun x => xs[x]?) ∘ fun k => xs.size - 1 - k) := fun l => by
      induction l with
      | nil => intro _; rfl
      | cons m l ih =>
        intro hm
        have h1 := hm m List.mem_cons_self
        have e1 : ((xs.size : Int) - 1 + (m : Int) * (-1)).toNat = xs.size - 1 - m := by omega
        rw [List.filterMap_cons, List.filterMap_cons, ih fun y hy => hm y (List.mem_cons_of_mem _ hy), e1]
        rfl
    exact key _ fun m hm => List.mem_range.mp hm
  rw [e, PySem.W.krv_range, List.filterMap_reverse, PySem.W.krv_all]
theorem getItem_tuple_rev {t sl : Addr} {items : Array Value} {vl vu vs : Value} {Q : Value → Shared → Prop} (ht : IsTup s.heap t items) (hs : s.heap.IsSliceOf sl vl vu vs) (pl : IsPart vl none) (pu : IsPart vu none) (ps : IsPart vs (some (-1)))
    (h : Q (.ref s.heap.objs.size) { s with heap := s.heap.push { cls := .type "tuple", data := .seq items.toList.reverse.toArray } })
    (hsz : items.size ≤ sizeLine) : wpAny (model prog w) A (getItem (.ref t) (.ref sl)) Q E s := by
  have htake : sizeOk (.seq items.toList.reverse.toArray) := by
    show items.toList.reverse.toArray.size ≤ sizeLine
    rw [List.size_toArray, List.length_reverse, Array.length_toList]
    exact hsz
  obtain ⟨os, hos, hcs, hds⟩ := id hs
  have hTs : s.TypeIs (.ref sl) "slice" := ⟨os, hos, hcs⟩
  unfold getItem
  try with_reducible refine wpAny_holding ?_
  first | refine wpAny_bind (wpAny_pure ?_) | skip
  refine wpAny_bind (wpAny_sequenceKey ht.typeIs (by decide) ?_)
  refine wpAny_bind (wpAny_callSpecial?_slot (name := Str.ofString "__getitem__") ht.typeIs PyProof.Rows.slot_tuple_getitem
    (wpAny_call_entry PyProof.Rows.slot_tuple_getitem ht.typeIs entry_tuple_getitem ?_ (args_tuple_getitem _ _)))
  show wpAny _ _ (Builtin.Tuple.tupleItemsOf (.ref t) >>= _) _ _ s
  refine wpAny_bind (tupleItemsOf_ ht ?_)
  refine wpAny_bind (wpAny_typeOf hTs ?_)
  rw [if_pos (by decide)]
  refine wpAny_bind (sliceApplied_rev hs pl pu ps ?_)
  have hno : ¬ ((((items.size : Int) - 1) == 0 && (-1 : Int) == 1 && items.size == items.size) = true) := by
    intro q
    rw [Bool.and_eq_true, Bool.and_eq_true] at q
    exact absurd q.1.2 (by decide)
  show wpAny _ _ (if (((items.size : Int) - 1) == 0 && (-1 : Int) == 1 && items.size == items.size) = true then _ else _) _ _ s
  rw [if_neg hno, pick_rev]
  first
    | exact wpAny_bind (m := Builtin.Tuple.tupleExact _) (wpAny_newObj_type (wpAny_pure ⟨_, rfl, wpAny_pure h⟩) htake)
    | exact wpAny_bind (m := Builtin.Tuple.tupleExact _) (wpAny_newObj_type (wpAny_bind (wpAny_pure (wpAny_pure ⟨_, rfl, wpAny_pure h⟩))) htake)
    | exact wpAny_bind (wpAny_bind (m := Builtin.Tuple.tupleExact _) (wpAny_newObj_type (wpAny_pure (wpAny_pure ⟨_, rfl, wpAny_pure h⟩)) htake))
    | exact wpAny_bind (wpAny_bind (m := Builtin.Tuple.tupleExact _) (wpAny_newObj_type (wpAny_pure ⟨_, rfl, wpAny_pure h⟩) htake))
end
/-- reversed -/
def revK (x : D) (M : Mm) (q : Kd) : Prop := match x with
  | .tup xs => q (.tup xs.reverse) M
  | d => ∃ xs, lsOf M d = some xs ∧ ∀ p, M p = none → q (.ref p) (mset M p (.lst xs.reverse))
def rRev (a : DE) : DE := fun ex δ M q => a ex δ M fun x M1 => revK x M1 q
section
variable {X : Cx} {T : List Addr} {ex : EK} {a : Expr} {ra : DE} {k : Nat} {p1 p2 p3 pos : Pos}
def tRevA (K : PySem.W.Frag) (te : TE) : TE := fun σ H Q => te σ H fun x H1 => ∃ a xs, x = .ref a ∧ ((SqL K H1 a xs ∧ ∀ p, H1 p = none → Q (.ref p) (upd H1 p (.lst xs.reverse))) ∨ (SqT K H1 a xs ∧ ∀ p, H1 p = none → Q (.ref p) (upd H1 p (.tup xs.reverse))))
theorem pe_revA {e : Expr} {te : TE} (he : PE X e te) : PE X (.Subscript e (.Slice none none (some (.UnaryOp .USub (.Constant (.int 1) k p1) p2)) p3) pos) (tRevA X.K te) := by
  refine ⟨fun pins s σ H Q I h => ?_⟩
  refine Subscript_ (thn (he.run pins s σ H _ I h) fun v s1 ⟨x, H1, I1, r1, q1⟩ => ?_)
  obtain ⟨a, xs, ex, q⟩ := q1
  subst ex
  cases r1
  have hst : PO X (some (.UnaryOp .USub (.Constant (.int 1) k p1) p2)) (tPart (tUn (rU fun i => .int (-i)) (tC (.int 1)))) := po_some (pe_un un_neg pe_int)
  refine wpAny_Slice (thn (po_none.run pins s1 σ H1 (fun o H2 => o = none ∧ H2 = H1) I1 ⟨rfl, rfl⟩) fun vl s2 ⟨l, H2, I2, pl, el, e2⟩ => ?_)
  subst el e2
  refine thn (po_none.run pins s2 σ H2 (fun o H3 => o = none ∧ H3 = H2) I2 ⟨rfl, rfl⟩) fun vu s3 ⟨u, H3, I3, pu, eu, e3⟩ => ?_
  subst eu e3
  refine thn (hst.run pins s3 σ H3 (fun o H4 => o = some (-1) ∧ H4 = H3) I3 ⟨1, rfl, -1, rfl, rfl, rfl⟩) fun vs s4 ⟨o, H4, I4, ps, eo, e4⟩ => ?_
  subst eo e4
  have I5 : Inv X pins σ H4 { s4 with heap := s4.heap.push { cls := .type "slice", data := .fields #[vl, vu, vs] } } := I4.kept (t' := s4.toks) fun b ob q => Heap.get?_push_of_some _ q
  rcases q with ⟨hx, q⟩ | ⟨hx, q⟩
  · obtain ⟨its, r, ht, hz⟩ := I5.list hx
    have hlen := r.length
    show wpAny (model X.prog X.w) X.A (subscriptTail e (.Slice none none (some (.UnaryOp .USub (.Constant (.int 1) k p1) p2)) p3) (.ref a) (.ref s4.heap.objs.size)) (EP X pins σ Q) X.xe { s4 with heap := s4.heap.push { cls := .type "slice", data := .fields #[vl, vu, vs] } }
    refine tail_any (ops := [.ref a, .ref s4.heap.objs.size]) ht.isList.typeIs (PySem.slot_list_getitem.lookup) ?_ (by with_unfolding_all rfl)
    refine wpAny_getItem_list_slice ht.isList (Heap.IsSliceOf.new _ vl vu vs) pl pu ps (by decide) ?_ (by rw [List.size_toArray]; omega)
    rw [PySem.W.krv_pick]
    refine ⟨.ref _, _, I5.laid (t' := s4.toks) (o := .lst xs.reverse) (fun b ob q => Heap.get?_push_of_some _ q) (Nat.le_refl _) ?_, rfl, q _ (I5.hok.fresh (Nat.le_refl _))⟩
    exact ⟨by rw [List.length_reverse]; exact hz, _, 0, r.reverse, Heap.get?_push_size _ rfl⟩
  · obtain ⟨its, r, ht, hz⟩ := I5.tuple hx
    have hlen : its.toArray.size = xs.length := by rw [List.size_toArray]; exact r.length.symm
    show wpAny (model X.prog X.w) X.A (subscriptTail e (.Slice none none (some (.UnaryOp .USub (.Constant (.int 1) k p1) p2)) p3) (.ref a) (.ref s4.heap.objs.size)) (EP X pins σ Q) X.xe { s4 with heap := s4.heap.push { cls := .type "slice", data := .fields #[vl, vu, vs] } }
    refine tail_any (ops := [.ref a, .ref s4.heap.objs.size]) ht.typeIs (PyProof.Rows.slot_tuple_getitem.lookup) ?_ (by with_unfolding_all rfl)
    refine getItem_tuple_rev ht (Heap.IsSliceOf.new _ vl vu vs) pl pu ps ?_ (by rw [hlen]; exact hz)
    refine ⟨.ref _, _, I5.laid (t' := s4.toks) (o := .tup xs.reverse) (fun b ob q => Heap.get?_push_of_some _ q) (Nat.le_refl _) ?_, rfl, q _ (I5.hok.fresh (Nat.le_refl _))⟩
    exact ⟨by rw [List.length_reverse]; exact hz, _, r.reverse, IsTup.new _ _⟩
theorem DenL.rev {K : PySem.W.Frag} {H : Hp} : ∀ {ds : List D} {vs : List V}, DenL K H ds vs → DenL K H ds.reverse vs.reverse
  | _, _, .nil => .nil
  | _, _, .cons a l => by rw [List.reverse_cons, List.reverse_cons]; exact (DenL.rev l).append (.cons a .nil)
theorem de_rev (ha : EP' X T ex a ra) : EP' X T ex (.Subscript a (.Slice none none (some (.UnaryOp .USub (.Constant (.int 1) k p1) p2)) p3) pos) (rRev ra) :=
  PEw (pe_revA ha) fun σ H Q ⟨δ, M, q, hδ, hM, z, kk⟩ => ⟨δ, M, _, hδ, hM, z, fun v1 H1 x M1 e1 d1 m1 z1 => by
    have ls : ∀ {d : D} {xs : List D}, lsOf M1 d = some xs → Den X.K H1 d v1 → (∀ p, M1 p = none → q (.ref p) (mset M1 p (.lst xs.reverse))) → ∃ a xs, v1 = .ref a ∧ ((SqL X.K H1 a xs ∧ ∀ p, H1 p = none → Q (.ref p) (upd H1 p (.lst xs.reverse))) ∨ (SqT X.K H1 a xs ∧ ∀ p, H1 p = none → Q (.ref p) (upd H1 p (.tup xs.reverse)))) := fun {d xs} h hd hq => by
      obtain ⟨a, vs, rfl, sq, l⟩ := lsOf_ok m1 h hd
      refine ⟨a, vs, rfl, .inl ⟨sq, fun p hp => kk _ _ _ _ (e1.trans (Ext.upd_new hp)) (.ref p) (m1.new (o := .lst xs.reverse) hp ⟨_, upd_same, (DenL.rev l).mono (Ext.upd_new hp)⟩) (hq p (m1.free hp))⟩⟩
    cases x with
    | tup xs =>
      cases d1 with
      | tup s l => exact ⟨_, _, rfl, .inr ⟨s, fun p hp => kk _ _ _ _ (e1.trans (Ext.upd_new hp)) (.tup (SqT.of upd_same) ((DenL.rev l).mono (Ext.upd_new hp))) (m1.newT hp) z1⟩⟩
    | non => obtain ⟨xs, h, hq⟩ := z1; cases h
    | bl b => obtain ⟨xs, h, hq⟩ := z1; cases h
    | int i => obtain ⟨xs, h, hq⟩ := z1; cases h
    | str y => obtain ⟨xs, h, hq⟩ := z1; cases h
    | ty n => obtain ⟨xs, h, hq⟩ := z1; cases h
    | ref b => obtain ⟨xs, h, hq⟩ := z1; exact ls h d1 hq
    | rol ys => obtain ⟨xs, h, hq⟩ := z1; exact ls h d1 hq⟩
@[simp] theorem u_rRev {δ : DSt} {M : Mm} {q : Kd} : rRev ra ex δ M q = ra ex δ M fun x M1 => revK x M1 q := rfl
@[simp] theorem u_revK_t {M : Mm} {q : Kd} {xs : List D} : revK (.tup xs) M q = q (.tup xs.reverse) M := rfl
end
end Lk
set_option Elab.async false
set_option linter.all false
set_option maxRecDepth 100000
set_option maxHeartbeats 1000000
/-! Lark, part 23: isinstance of dicts too. -/
namespace Lk
open PySem PySem.Spec PyProof.Rows L2
def tyOf2 (M : Mm) : D → Option String
  | .ref a => match M a with
    | some (.lst _) => some "list"
    | some (.dct _) => some "dict"
    | _ => none
  | d => tyOf M d
def bIsi2 : DL := fun ds M q => match ds with
  | [d, .ty T] => ∃ t r, tyOf2 M d = some t ∧ kitB t T = some r ∧ q (.bl r) M
  | _ => False
section
variable {X : Cx} {T : List Addr}
theorem cl_isi2 : CL' X T (.builtin "isinstance") bIsi2 := by
  intro pins s σ H xs us Q I r ⟨ds, M, q, hd, hM, z, k⟩
  match ds, hd, z with
  | [d, .ty Tn], .cons h1 (.cons (.ty _) .nil), ⟨t, b, ht, hk, z⟩ =>
    have old : tyOf M d = some t → wpAny (model X.prog X.w) X.A (call (.builtin "isinstance") us) (EP X pins σ Q) X.xe s := fun e =>
      cl_isi pins s σ H _ us Q I r ⟨_, M, q, .cons h1 (.cons (.ty _) .nil), hM, ⟨t, b, e, hk, z⟩, k⟩
    cases h1 with
    | ref a =>
      cases e : M a with
      | none => simp [tyOf2, e] at ht
      | some o =>
        cases o with
        | lst xs => exact old (by simpa [tyOf2, tyOf, e] using ht)
        | ins _ _ _ => simp [tyOf2, e] at ht
        | dct kvs =>
          simp [tyOf2, e] at ht
          subst ht
          obtain ⟨u1, u2, rfl, r1, r2⟩ := vals2 r
          cases (show u1 = Value.ref a from r1)
          cases (show u2 = Value.type Tn from r2)
          obtain ⟨es, ep, hr, _⟩ := dct_raw I (hM.obj a _ e)
          obtain ⟨o, h1, h2, _⟩ := hr
          exact PySem.W.kia_one PySem.W.kitx_dict I.kIn ⟨o, h1, h2.1⟩ (kit_ty hk) (fun z => nomatch z) fun tk => ⟨.bl b, H, I.tok tk, rfl, k _ _ _ _ .refl (.bl _) hM z⟩
    | _ => exact old ht
end
@[simp] theorem u_bIsi2 {M : Mm} {q : Kd} {d : D} {n : String} : bIsi2 [d, .ty n] M q = ∃ t r, tyOf2 M d = some t ∧ kitB t n = some r ∧ q (.bl r) M := rfl
@[simp] theorem ty2_non {M : Mm} : tyOf2 M .non = some "NoneType" := rfl
@[simp] theorem ty2_bl {M : Mm} {b : Bool} : tyOf2 M (.bl b) = some "bool" := rfl
@[simp] theorem ty2_int {M : Mm} {i : Int} : tyOf2 M (.int i) = some "int" := rfl
@[simp] theorem ty2_str {M : Mm} {x : Str} : tyOf2 M (.str x) = some "str" := rfl
@[simp] theorem ty2_tup {M : Mm} {xs : List D} : tyOf2 M (.tup xs) = some "tuple" := rfl
@[simp] theorem ty2_rol {M : Mm} {xs : List D} : tyOf2 M (.rol xs) = some "list" := rfl
theorem ty2_ref {M : Mm} {a : Addr} {xs : List D} (h : M a = some (.lst xs)) : tyOf2 M (.ref a) = some "list" := by simp [tyOf2, h]
theorem ty2_dct {M : Mm} {a : Addr} {kvs : List (D × D)} (h : M a = some (.dct kvs)) : tyOf2 M (.ref a) = some "dict" := by simp [tyOf2, h]
@[simp] theorem kit_dict_int : kitB "dict" "int" = some false := by decide +kernel
@[simp] theorem kit_dict_bool : kitB "dict" "bool" = some false := by decide +kernel
@[simp] theorem kit_dict_tuple : kitB "dict" "tuple" = some false := by decide +kernel
@[simp] theorem kit_dict_list : kitB "dict" "list" = some false := by decide +kernel
@[simp] theorem kit_dict_str : kitB "dict" "str" = some false := by decide +kernel
end Lk
set_option Elab.async false
set_option linter.all false
set_option maxRecDepth 100000
set_option maxHeartbeats 1000000
/-! Lark, part 24: list comprehensions whose elements make objects; all of bools. -/
namespace Lk
open PySem PySem.Spec PyProof.Rows L2
theorem lc_mapw {ex : EK} {δ : DSt} {M : Mm} {q : Kd} {g : DG} {e : DE} {vs : List Nat} {J : ItD} (f : D → D) (hl : J.items.length ≤ sizeLine) (hk : ∀ M', Sub M M' → J.keep M')
    (he : ∀ d q' M1, d ∈ J.items → Sub M M1 → (∀ M2, Sub M1 M2 → q' (f d) M2) → g d ex (wipeG δ vs) M1 fun δ2 M2 => e ex δ2 M2 q')
    (h : ∀ p, M p = none → q (.ref p) (mset M p (.lst (J.items.map f)))) : LcD vs g rYes e ex δ J M q := by
  intro p hp
  refine ⟨fun j M' => M' = mset M p (.lst ((J.items.take j).map f)), by simp, fun _ _ z => z ▸ hk _ (.new hp), fun j d M' hd z => ?_, fun M' z => ?_⟩
  · subst z
    have hj : j < J.items.length := by
      rcases Nat.lt_or_ge j J.items.length with h1 | h1
      · exact h1
      · rw [List.getElem?_eq_none h1] at hd; cases hd
    refine he d (fun y M4 => ∃ acc, M4 p = some (.lst acc) ∧ acc.length < sizeLine ∧ Wm (fun M' => M' = mset M p (.lst ((J.items.take (j + 1)).map f))) (mset M4 p (.lst (acc ++ [y])))) (mset M p (.lst ((J.items.take j).map f))) (mem_get hd) (.new hp) fun M2 s => ?_
    refine ⟨_, s _ _ mset_same, by rw [List.length_map, List.length_take]; omega, mset M p (.lst ((J.items.take (j + 1)).map f)), ?_, rfl⟩
    have : mset M p (.lst ((J.items.take (j + 1)).map f)) = mset (mset M p (.lst ((J.items.take j).map f))) p (.lst ((J.items.take j).map f ++ [f d])) := by
      rw [mset_mset, take_get hd, List.map_append]; rfl
    rw [this]
    exact s.set _ _
  · subst z
    rw [List.take_length]
    exact h p hp
theorem ls_bl {α : Type} {M : Mm} {p : Addr} {xs : List α} {f : α → Bool} : lsOf (mset M p (.lst (xs.map fun d => .bl (f d)))) (.ref p) = some ((xs.map f).map D.bl) := by
  rw [u_ls_r mset_same, List.map_map]; rfl
theorem all_map_id {α : Type} {xs : List α} {f : α → Bool} : (xs.map f).all id = xs.all f := by rw [List.all_map]; rfl
theorem mem_false {α : Type} {xs : List α} {f : α → Bool} : (false ∈ xs.map f) = (xs.all f = false) := by
  apply propext
  rw [List.all_eq_false, List.mem_map]
  simp
theorem sz1000 : (1000 : Nat) ≤ sizeLine := by decide
theorem zip_two : ∀ xs ys : List D, zipD xs ys = (xs.zip ys).map fun p => D.tup [p.1, p.2]
  | [], _ => by simp [zipD]
  | _ :: _, [] => by simp [zipD]
  | x :: xs, y :: ys => by simp [zipD, zip_two xs ys]
theorem oLt2_by {x y : D} {M : Mm} {q : Kd} {k l : NestedKey} (e1 : keyOf x = some k) (e2 : keyOf y = some l) (ok : okK k l = true) (hd : k.depth ≤ 60) (h : q (.bl (ltD x y)) M) : oLt2 x y M q := by
  have hl : ltD x y = ltK k l := by unfold ltD; rw [e1, e2]
  rw [hl] at h
  have g : oLt x y M q := ⟨k, l, e1, e2, ok, hd, h⟩
  unfold oLt2
  split
  · cases e1; cases e2; rw [ltK] at h; exact h
  · exact g
end Lk
set_option Elab.async false
set_option linter.all false
set_option maxRecDepth 100000
set_option maxHeartbeats 1000000
/-! Lark, part 25: what an expression gives, loosely: lists of things that keep a form. -/
namespace Lk
open PySem PySem.Spec PyProof.Rows L2
/-- e gives something that R says, and the memory grows alone -/
def Gv (e : DE) (ex : EK) (δ : DSt) (M : Mm) (R : D → Mm → Prop) : Prop := ∀ q : Kd, (∀ d M', Sub M M' → R d M' → q d M') → e ex δ M q
def GvA (a : DA) (ex : EK) (δ : DSt) (M : Mm) (R : List D → Mm → Prop) : Prop := ∀ q : List D → Mm → Prop, (∀ d M', Sub M M' → R d M' → q d M') → a ex δ M q
def Mono (R : D → Mm → Prop) : Prop := ∀ d M M', Sub M M' → R d M → R d M'
/-- .. the kinds of what is there stay -/
def SubK (M N : Mm) : Prop := ∀ a o, M a = some o → ∃ u, N a = some u ∧ ((∃ xs ys, o = .lst xs ∧ u = .lst ys) ∨ (∃ xs ys, o = .dct xs ∧ u = .dct ys) ∨ o = u)
theorem Sub.k {M N : Mm} (s : Sub M N) : SubK M N := fun a o h => ⟨o, s a o h, .inr (.inr rfl)⟩
theorem SubK.put {M : Mm} {p : Addr} {xs ys : List D} (h : M p = some (.lst xs)) : SubK M (mset M p (.lst ys)) := fun a o e => by
  by_cases q : a = p
  · subst q; rw [h] at e; cases e; exact ⟨_, mset_same, .inl ⟨_, _, rfl, rfl⟩⟩
  · exact ⟨o, (mset_ne q).trans e, .inr (.inr rfl)⟩
def MonoK (R : D → Mm → Prop) : Prop := ∀ d M M', SubK M M' → R d M → R d M'
theorem MonoK.m {R : D → Mm → Prop} (h : MonoK R) : Mono R := fun d M M' s => h d M M' s.k
/-- a list of things that keep R -/
def LsR (M0 : Mm) (R : D → Mm → Prop) (n : Nat) (d : D) (M : Mm) : Prop := ∃ p xs, d = .ref p ∧ M0 p = none ∧ M p = some (.lst xs) ∧ xs.length = n ∧ ∀ x ∈ xs, R x M
def AlR (R : D → Mm → Prop) (n : Nat) (xs : List D) (M : Mm) : Prop := xs.length = n ∧ ∀ x ∈ xs, R x M
theorem LsR.sub {M0 : Mm} {R : D → Mm → Prop} (hR : Mono R) {n : Nat} {d : D} {M M' : Mm} (s : Sub M M') (h : LsR M0 R n d M) : LsR M0 R n d M' :=
  let ⟨p, xs, e, h0, hp, hl, hx⟩ := h
  ⟨p, xs, e, h0, s _ _ hp, hl, fun x m => hR x M M' s (hx x m)⟩
section
variable {ex : EK} {δ : DSt} {M M0 : Mm} {R R' : D → Mm → Prop} {e a b : DE} {l : DA} {m n : Nat}
theorem Gv.mono (h : Gv e ex δ M R) (k : ∀ d M', Sub M M' → R d M' → R' d M') : Gv e ex δ M R' := fun q hq => h q fun d M' s z => hq d M' s (k d M' s z)
theorem gv_nil : GvA rNil ex δ M (AlR R 0) := fun q h => h [] M (.refl M) ⟨rfl, by simp⟩
theorem gv_cons (hR : Mono R) (he : Gv e ex δ M R) (ha : ∀ M', Sub M M' → GvA l ex δ M' (AlR R n)) : GvA (rCons e l) ex δ M (AlR R (n + 1)) := by
  intro q h
  refine he _ fun x M1 s1 hx => ?_
  refine ha M1 s1 _ fun xs M2 s2 hxs => ?_
  refine h _ _ (s1.trans s2) ⟨by have := hxs.1; simp only [List.length_cons]; omega, fun y hy => ?_⟩
  rcases List.mem_cons.mp hy with rfl | hy
  · exact hR _ _ _ s2 hx
  · exact hxs.2 y hy
theorem gv_lst (h0 : Sub M0 M) (hR : Mono R) (hn : n ≤ 1000) (ha : GvA l ex δ M (AlR R n)) : Gv (rLst l) ex δ M (LsR M0 R n) := by
  intro q h
  refine ha _ fun xs M1 s1 hxs => ?_
  refine ⟨Nat.le_trans (Nat.le_of_eq hxs.1) (Nat.le_trans hn sz1000), fun p hp => ?_⟩
  exact h _ _ (s1.trans (.new hp)) ⟨p, xs, rfl, (h0.trans s1).none hp, mset_same, hxs.1, fun x hx => hR _ _ _ (.new hp) (hxs.2 x hx)⟩
theorem gv_var {i : Nat} {d : D} (h : δ[i]? = some (some d)) (hd : R d M) : Gv (rVar i) ex δ M R := fun q hq => ⟨d, h, hq d M (.refl M) hd⟩
theorem gv_add (h0 : Sub M0 M) (hR : Mono R) (hn : m + n ≤ 1000) (ha : Gv a ex δ M (LsR M0 R m)) (hb : ∀ M', Sub M M' → Gv b ex δ M' (LsR M0 R n)) : Gv (rBin oAdd a b) ex δ M (LsR M0 R (m + n)) := by
  intro q h
  refine ha _ fun x M1 s1 hx => ?_
  refine hb M1 s1 _ fun y M2 s2 hy => ?_
  obtain ⟨p, xs, rfl, -, hp, hl, hxs⟩ := hx.sub hR s2
  obtain ⟨p', ys, rfl, -, hp', hl', hys⟩ := hy
  refine ⟨xs, ys, hp, hp', Nat.le_trans (Nat.le_of_eq (by rw [hl, hl'])) (Nat.le_trans hn sz1000), fun p2 hp2 => ?_⟩
  refine h _ _ ((s1.trans s2).trans (.new hp2)) ⟨p2, _, rfl, ((h0.trans s1).trans s2).none hp2, mset_same, by rw [List.length_append]; omega, fun z hz => ?_⟩
  rcases List.mem_append.mp hz with hz | hz
  · exact hR _ _ _ (.new hp2) (hxs z hz)
  · exact hR _ _ _ (.new hp2) (hys z hz)
/-- [e for x in a] -/
theorem gv_lc {i : Nat} {vs : List Nat} (h0 : Sub M0 M) (hR : MonoK R) (hR' : Mono R') (hn : n ≤ 1000) (ha : Gv a ex δ M (LsR M0 R' n)) (he : ∀ d M1, Sub M M1 → R' d M1 → Gv e ex ((wipeG δ vs).set i (some d)) M1 R) :
    Gv (rLc vs (rItV a) (rgName i) rYes e) ex δ M (LsR M0 R n) := by
  intro q h
  refine ha _ fun x M1 s1 hx => ?_
  obtain ⟨p, xs, rfl, -, hp, hl, hxs⟩ := hx
  refine ⟨_, u_itOf_r hp, ?_⟩
  intro p2 hp2
  refine ⟨fun i M' => Sub M1 M' ∧ ∃ ys, M' p2 = some (.lst ys) ∧ ys.length = i ∧ ∀ y ∈ ys, R y M', ⟨.new hp2, [], mset_same, rfl, by simp⟩, fun i M' z => z.1 _ _ hp, fun i d M' hd z => ?_, fun M' z => ?_⟩
  · obtain ⟨s2, ys, hy, hyl, hR2⟩ := z
    have hd : xs[i]? = some d := hd
    have hi : i < xs.length := by
      rcases Nat.lt_or_ge i xs.length with h1 | h1
      · exact h1
      · rw [List.getElem?_eq_none h1] at hd; cases hd
    have hd' : R' d M' := hR' _ _ _ s2 (hxs d (mem_get hd))
    simp only [u_rgName, u_rYes, if_true]
    refine he d M' (s1.trans s2) hd' _ fun y M4 s4 hy4 => ?_
    refine ⟨ys, s4 _ _ hy, Nat.lt_of_lt_of_le (show ys.length < 1000 by omega) sz1000, ?_⟩
    refine Wm.of ⟨?_, ys ++ [y], mset_same, by simp [hyl], fun u hu => ?_⟩
    · intro b o hb
      by_cases e : b = p2
      · subst e; rw [hp2] at hb; cases hb
      · rw [mset_ne e]; exact s4 _ _ (s2 _ _ hb)
    · have k4 : SubK M4 (mset M4 p2 (.lst (ys ++ [y]))) := .put (s4 _ _ hy)
      rcases List.mem_append.mp hu with hu | hu
      · exact hR _ _ _ k4 (hR.m _ _ _ s4 (hR2 u hu))
      · rw [List.mem_singleton.mp hu]; exact hR _ _ _ k4 hy4
  · obtain ⟨s2, ys, hy, hyl, hR2⟩ := z
    have hyl : ys.length = xs.length := hyl
    exact h _ _ (s1.trans s2) ⟨p2, ys, rfl, (h0.trans s1).none hp2, hy, by omega, hR2⟩
/-- x = e, then the rest -/
theorem gv_seq {i : Nat} {r : DS} {K : DEnds} (he : Gv e ex δ M R) (h : ∀ d M', Sub M M' → R d M' → r ex K (δ.set i (some d)) M') : rSeq (rAsg e (rgName i)) r ex K δ M := he _ h
end
end Lk
set_option Elab.async false
set_option linter.all false
set_option maxRecDepth 100000
set_option maxHeartbeats 1000000
/-! Lark, part 26: lists of draws; what is the same at every depth. -/
namespace Lk
open PySem PySem.Spec PyProof.Rows L2
theorem ne_none {M : Mm} {a p : Addr} {o : MO} (h : M a = some o) (hp : M p = none) : a ≠ p := fun e => by rw [e, hp] at h; cases h
theorem keep_new {M : Mm} {a p : Addr} {o u : MO} (h : M a = some o) (hp : M p = none) : mset M p u a = some o := (mset_ne (ne_none h hp)).trans h
theorem mset_self {M : Mm} {a : Addr} {o : MO} (h : M a = some o) : mset M a o = M := by
  funext b; unfold mset; split <;> simp_all
/-- a list of draws of one object -/
theorem lc_draw {α : Type} {c : α → D} (P : α → Prop) (WI : Nat → MO → Prop) {a : Addr} {m : Nat} {o : MO} {lo : Int} {vs : List Nat} {g : DG} {e : DE} {ex : EK} {δ : DSt} {M : Mm} {q : Kd} (hM : M a = some o) (ho : WI 0 o) (hm : m < 1000)
    (he : ∀ (i : Nat) (M' : Mm) (o' : MO) (q' : Kd), i < m → M' a = some o' → WI i o' → (∀ x o'', P x → WI (i + 1) o'' → q' (c x) (mset M' a o'')) → g (.int (lo + (i : Nat))) ex (wipeG δ vs) M' fun δ2 M2 => e ex δ2 M2 q')
    (h : ∀ p (xs : List α) o', M p = none → xs.length = m → (∀ x ∈ xs, P x) → WI m o' → q (.ref p) (mset (mset M a o') p (.lst (xs.map c)))) : LcD vs g rYes e ex δ ⟨rangeD lo m, fun _ => True⟩ M q := by
  intro p hp
  have hap := ne_none hM hp
  refine ⟨fun i M' => ∃ (xs : List α) (o' : MO), M' = mset (mset M a o') p (.lst (xs.map c)) ∧ xs.length = i ∧ (∀ x ∈ xs, P x) ∧ WI i o', ⟨[], o, by rw [mset_self hM]; rfl, rfl, by simp, ho⟩, fun _ _ _ => trivial, fun i d M' hd z => ?_, fun M' z => ?_⟩
  · obtain ⟨xs, o', rfl, hl, hP, hw⟩ := z
    obtain ⟨hi, rfl⟩ := rangeD_get hd
    refine he i _ o' _ hi ((mset_ne hap).trans mset_same) hw (fun x o'' hx hw2 => ?_)
    have e1 : mset (mset (mset M a o') p (.lst (xs.map c))) a o'' = mset (mset M a o'') p (.lst (xs.map c)) := by rw [mset_comm hap.symm, mset_mset]
    rw [e1]
    refine ⟨xs.map c, mset_same, ?_, Wm.of ⟨xs ++ [x], o'', ?_, by simp [hl], ?_, hw2⟩⟩
    · rw [List.length_map]; exact Nat.lt_of_lt_of_le (show xs.length < 1000 by omega) sz1000
    · rw [mset_mset, List.map_append]; rfl
    · intro y hy
      rcases List.mem_append.mp hy with hy | hy
      · exact hP y hy
      · rw [List.mem_singleton.mp hy]; exact hx
  · obtain ⟨xs, o', rfl, hl, hP, hw⟩ := z
    have hl : xs.length = (rangeD lo m).length := hl
    have hw : WI (rangeD lo m).length o' := hw
    rw [rangeD_length] at hl hw
    exact h p xs o' hp hl hP hw
/-- the same, of the same kinds, at most n deep -/
inductive SameD (M : Mm) : Nat → D → D → Prop
  | non (n : Nat) : SameD M n .non .non
  | bl (n : Nat) (b : Bool) : SameD M n (.bl b) (.bl b)
  | int (n : Nat) (i : Int) : SameD M n (.int i) (.int i)
  | str (n : Nat) (x : Str) : SameD M n (.str x) (.str x)
  | tup {n : Nat} {xs ys : List D} : xs.length = ys.length → xs.length ≤ 1000 → (∀ (i : Nat) x y, xs[i]? = some x → ys[i]? = some y → SameD M n x y) → SameD M (n + 1) (.tup xs) (.tup ys)
  | lst {n : Nat} {a b : Addr} {xs ys : List D} : M a = some (.lst xs) → M b = some (.lst ys) → xs.length = ys.length → xs.length ≤ 1000 → (∀ (i : Nat) x y, xs[i]? = some x → ys[i]? = some y → SameD M n x y) → SameD M (n + 1) (.ref a) (.ref b)
theorem SameD.sub {M N : Mm} (s : Sub M N) {n : Nat} {x y : D} (h : SameD M n x y) : SameD N n x y := by
  induction h with
  | non n => exact .non n
  | bl n b => exact .bl n b
  | int n i => exact .int n i
  | str n x => exact .str n x
  | tup h1 h2 _ ih => exact .tup h1 h2 ih
  | lst ha hb h1 h2 _ ih => exact .lst (s _ _ ha) (s _ _ hb) h1 h2 ih
theorem SameD.up {M : Mm} {n : Nat} {x y : D} (h : SameD M n x y) : ∀ {m : Nat}, n ≤ m → SameD M m x y := by
  induction h with
  | non n => exact fun _ => .non _
  | bl n b => exact fun _ => .bl _ b
  | int n i => exact fun _ => .int _ i
  | str n x => exact fun _ => .str _ x
  | tup h1 h2 _ ih =>
    intro m hm
    obtain ⟨k, rfl⟩ : ∃ k, m = k + 1 := ⟨m - 1, by omega⟩
    exact .tup h1 h2 fun i x y a b => ih i x y a b (by omega)
  | lst ha hb h1 h2 _ ih =>
    intro m hm
    obtain ⟨k, rfl⟩ : ∃ k, m = k + 1 := ⟨m - 1, by omega⟩
    exact .lst ha hb h1 h2 fun i x y a b => ih i x y a b (by omega)
def sp_same (n : Nat) : DSp := fun ds M q _ => match ds with
  | [x, y] => SameD M n x y ∧ q (.bl true) M
  | _ => False
def rSame (sp__law_same : DSp) : DS := rSeq (rIfS (rTB (rBin (oIs false) (rVar 1) (rCst .non))) (rSeq (rRet (rBin (oIs false) (rVar 0) (rCst .non))) (rNext)) (rNext)) (rSeq (rIfS (rTru (rArg bIsi2 (rCons (rVar 1) (rCons (rCst (.ty "bool")) (rNil))))) (rSeq (rRet (rIf (rTru (rVar 1)) (rBin (oIs false) (rVar 0) (rCst (.bl true))) (rBin (oIs false) (rVar 0) (rCst (.bl false))))) (rNext)) (rNext)) (rSeq (rIfS (rTru (rArg bIsi2 (rCons (rVar 1) (rCons (rCst (.ty "int")) (rNil))))) (rSeq (rRet (rAndV (rArg bIsi2 (rCons (rVar 0) (rCons (rCst (.ty "int")) (rNil)))) (rAndV (rNotV (rArg bIsi2 (rCons (rVar 0) (rCons (rCst (.ty "bool")) (rNil))))) (rBin (oEq false) (rVar 0) (rVar 1))))) (rNext)) (rNext)) (rSeq (rIfS (rTru (rArg bIsi2 (rCons (rVar 1) (rCons (rCst (.ty "str")) (rNil))))) (rSeq (rRet (rAndV (rArg bIsi2 (rCons (rVar 0) (rCons (rCst (.ty "str")) (rNil)))) (rBin (oEq false) (rVar 0) (rVar 1)))) (rNext)) (rNext)) (rSeq (rIfS (rOr (rTB (rBin (oEq true) (rArg bIsi2 (rCons (rVar 1) (rCons (rCst (.ty "tuple")) (rNil)))) (rArg bIsi2 (rCons (rVar 0) (rCons (rCst (.ty "tuple")) (rNil)))))) (rTB (rBin (oEq true) (rArg bIsi2 (rCons (rVar 1) (rCons (rCst (.ty "list")) (rNil)))) (rArg bIsi2 (rCons (rVar 0) (rCons (rCst (.ty "list")) (rNil))))))) (rSeq (rRet (rCst (.bl false))) (rNext)) (rNext)) (rSeq (rRet (rAndV (rBin (oEq false) (rArg bLen2 (rCons (rVar 0) (rNil))) (rArg bLen2 (rCons (rVar 1) (rNil)))) (rArg bAll (rCons (rLc [2] (rItR1 (rCons (rArg bLen2 (rCons (rVar 1) (rNil))) (rNil))) (rgName 2) (rYes) (rCall sp__law_same 2 (rCons (rBin oIx2 (rVar 0) (rVar 2)) (rCons (rBin oIx2 (rVar 1) (rVar 2)) (rNil))))) (rNil))))) (rNext))))))
theorem rangeD_mem {n : Nat} {d : D} (h : d ∈ rangeD 0 n) : ∃ j : Nat, j < n ∧ d = .int j := by
  obtain ⟨i, hi⟩ := List.getElem?_of_mem h
  obtain ⟨h1, h2⟩ := rangeD_get hi
  exact ⟨i, h1, by simpa using h2⟩
/-- the turns of all([same(told[k], due[k]) for k in range(len(due))]) -/
theorem same_turns {n : Nat} {x y : D} {xs ys : List D} {δ : DSt} {ex : EK} {M : Mm} {q : Kd} (hl : xs.length = ys.length) (hk : xs.length ≤ 1000) (h : ∀ (i : Nat) x y, xs[i]? = some x → ys[i]? = some y → SameD M n x y)
    (hx : ∀ M' (i : Nat) d q', Sub M M' → xs[i]? = some d → q' d M' → oIx2 x (.int i) M' q') (hy : ∀ M' (i : Nat) d q', Sub M M' → ys[i]? = some d → q' d M' → oIx2 y (.int i) M' q') (hδ : δ = [some x, some y, none])
    (hq : q (.bl true) M) : LcD [2] (rgName 2) rYes (rCall (sp_same n) 2 (rCons (rBin oIx2 (rVar 0) (rVar 2)) (rCons (rBin oIx2 (rVar 1) (rVar 2)) rNil))) ex δ ⟨rangeD 0 ys.length, fun _ => True⟩ M
      (fun d M1 => ∃ bs : List Bool, lsOf M1 d = some (bs.map D.bl) ∧ Wq q (.bl (bs.all id)) M1) := by
  subst hδ
  refine lc_map (fun _ => .bl true) ?_ (fun _ _ _ => trivial) (fun d q' p o hd hp z => ?_) (fun p hp => ?_)
  · show (rangeD 0 _).length ≤ sizeLine
    rw [rangeD_length]
    exact Nat.le_trans (by omega) sz1000
  · obtain ⟨j, hj, rfl⟩ := rangeD_mem hd
    simp [wipeG]
    have e1 : xs[j]? = some xs[j] := List.getElem?_eq_getElem (by omega)
    have e2 : ys[j]? = some ys[j] := List.getElem?_eq_getElem (by omega)
    exact hx _ _ _ _ (.new hp) e1 (hy _ _ _ _ (.new hp) e2 ⟨(h j _ _ e1 e2).sub (.new hp), z⟩)
  · refine ⟨_, ls_bl, ?_⟩
    rw [all_map_id]
    have : ∀ l : List D, l.all (fun _ => true) = true := fun l => by simp
    rw [this]
    exact Wq.sub hq (.new hp)
@[simp] theorem u_isB_sn {x : Str} : isB (.str x) .non = false := rfl
theorem pl_same (n : Nat) : ∀ ds M q ex, sp_same (n + 1) ds M q ex → rSame (sp_same n) ex { nx := fun _ M' => Wq q .non M', rt := Wq q } (startD ["told", "due", "k"] ds) M := by
  intro ds M q ex h
  unfold sp_same at h
  split at h; case h_2 => exact h.elim
  obtain ⟨hs, h⟩ := h
  cases hs with
  | non n => simp [rSame, startD]; exact Wq.of h
  | bl n b => cases b <;> simp [rSame, startD] <;> exact Wq.of h
  | int n i => simp [rSame, startD]; exact Wq.of h
  | str n x => simp [rSame, startD]; exact Wq.of h
  | tup hl hk hh =>
    rename_i xs ys
    simp [rSame, startD, hl]
    have : (1000 : Int) < 2 ^ 62 := by decide
    refine ⟨by omega, ?_⟩
    refine same_turns hl hk hh (fun M' i d q' s e z => ?_) (fun M' i d q' s e z => ?_) rfl h
    · rw [u_oIx2_t]; exact ⟨d, atI_of e, z⟩
    · rw [u_oIx2_t]; exact ⟨d, atI_of e, z⟩
  | lst ha hb hl hk hh =>
    rename_i a b xs ys
    simp [rSame, startD, ty2_ref ha, ty2_ref hb, u_lenOf2_r ha, u_lenOf2_r hb, hl]
    have : (1000 : Int) < 2 ^ 62 := by decide
    refine ⟨by omega, ?_⟩
    refine same_turns hl hk hh (fun M' i d q' s e z => ?_) (fun M' i d q' s e z => ?_) rfl h
    · rw [u_oIx2_r (s _ _ ha)]; exact ⟨d, atI_of e, z⟩
    · rw [u_oIx2_r (s _ _ hb)]; exact ⟨d, atI_of e, z⟩
end Lk
set_option Elab.async false
set_option linter.all false
set_option maxRecDepth 100000
set_option maxHeartbeats 1000000
/-! Lark, part 27: == and `in` over data with texts. -/
namespace Lk
open PySem PySem.Spec PyProof.Rows L2
mutual
/-- data without bools, texts with signs that are -/
def okT : D → Bool
  | .non => true
  | .int _ => true
  | .str x => PyData.strOk x
  | .tup xs => okTs xs
  | _ => false
def okTs : List D → Bool
  | [] => true
  | x :: xs => okT x && okTs xs
end
mutual
theorem pd_t (M : Mm) : ∀ {d : D}, okT d = true → PD M d (toPy d)
  | .non, _ => .non
  | .int i, _ => .int i
  | .str x, _ => .str x
  | .tup xs, h => .tup (pds_t M (d := xs) h)
  | .bl b, h => by cases h
  | .ref a, h => by cases h
  | .ty n, h => by cases h
  | .rol xs, h => by cases h
theorem pds_t (M : Mm) : ∀ {d : List D}, okTs d = true → PDL M d (toPys d)
  | [], _ => .nil
  | x :: xs, h => by
    rw [okTs, Bool.and_eq_true] at h
    exact .cons (pd_t M h.1) (pds_t M h.2)
end
mutual
theorem can_t : ∀ {d : D}, okT d = true → (toPy d).canLay0 = true
  | .non, _ => by rw [toPy, PyData.canLay0]
  | .int i, _ => by rw [toPy, PyData.canLay0]
  | .str x, h => by rw [toPy, PyData.canLay0]; exact h
  | .tup xs, h => by rw [toPy, PyData.canLay0]; exact cans_t (d := xs) h
  | .bl b, h => by cases h
  | .ref a, h => by cases h
  | .ty n, h => by cases h
  | .rol xs, h => by cases h
theorem cans_t : ∀ {d : List D}, okTs d = true → PyData.canLayAll0 (toPys d) = true
  | [], _ => by rw [toPys, PyData.canLayAll0]
  | x :: xs, h => by
    rw [okTs, Bool.and_eq_true] at h
    rw [toPys, PyData.canLayAll0, can_t h.1, cans_t h.2]; rfl
end
theorem shaped_t {d : D} (h : okT d = true) (hd : dpD d ≤ 64) : SeqAt.shaped (toPy d) = true := by
  unfold SeqAt.shaped
  rw [can_t h, Bool.true_and]
  have := depth_py d
  exact decide_eq_true (by omega)
mutual
theorem eqv_t : ∀ {d e : D}, okT d = true → okT e = true → (PyData.eqv (toPy d) (toPy e) = true ↔ d = e)
  | .non, .non, _, _ => by simp [toPy, PyData.eqv]
  | .non, .int _, _, _ => by simp [toPy, PyData.eqv]
  | .non, .str _, _, _ => by simp [toPy, PyData.eqv]
  | .non, .tup _, _, _ => by simp [toPy, PyData.eqv]
  | .int _, .non, _, _ => by simp [toPy, PyData.eqv]
  | .int _, .int _, _, _ => by simp [toPy, PyData.eqv]
  | .int _, .str _, _, _ => by simp [toPy, PyData.eqv]
  | .int _, .tup _, _, _ => by simp [toPy, PyData.eqv]
  | .str _, .non, _, _ => by simp [toPy, PyData.eqv]
  | .str _, .int _, _, _ => by simp [toPy, PyData.eqv]
  | .str _, .str _, _, _ => by simp [toPy, PyData.eqv]
  | .str _, .tup _, _, _ => by simp [toPy, PyData.eqv]
  | .tup _, .non, _, _ => by simp [toPy, PyData.eqv]
  | .tup _, .int _, _, _ => by simp [toPy, PyData.eqv]
  | .tup _, .str _, _, _ => by simp [toPy, PyData.eqv]
  | .tup xs, .tup ys, h, k => by rw [toPy, toPy, PyData.eqv, eqvs_t (d := xs) (e := ys) h k]; simp
  | .bl _, _, h, _ => by cases h
  | .ref _, _, h, _ => by cases h
  | .ty _, _, h, _ => by cases h
  | .rol _, _, h, _ => by cases h
  | _, .bl _, _, h => by cases h
  | _, .ref _, _, h => by cases h
  | _, .ty _, _, h => by cases h
  | _, .rol _, _, h => by cases h
theorem eqvs_t : ∀ {d e : List D}, okTs d = true → okTs e = true → (PyData.eqvAll (toPys d) (toPys e) = true ↔ d = e)
  | [], [], _, _ => by simp [toPys, PyData.eqvAll]
  | [], _ :: _, _, _ => by simp [toPys, PyData.eqvAll]
  | _ :: _, [], _, _ => by simp [toPys, PyData.eqvAll]
  | x :: xs, y :: ys, h, k => by
    rw [okTs, Bool.and_eq_true] at h k
    rw [toPys, toPys, PyData.eqvAll, Bool.and_eq_true, eqv_t h.1 k.1, eqvs_t h.2 k.2]; simp
end
section
variable {M : Mm} {q : Kd} {neg b : Bool}
theorem oEqT {xs ys : List D} (h1 : okTs xs = true) (h2 : okTs ys = true) (k1 : dpDs xs < 64) (k2 : dpDs ys < 64) (hb : b = true ↔ xs = ys) (h : q (.bl (if neg then !b else b)) M) : oEq neg (.tup xs) (.tup ys) M q := by
  have p1 : okT (.tup xs) = true := h1
  have p2 : okT (.tup ys) = true := h2
  refine ⟨_, _, pd_t M p1, pd_t M p2, shaped_t p1 (by show dpDs xs + 1 ≤ 64; omega), shaped_t p2 (by show dpDs ys + 1 ≤ 64; omega), ?_⟩
  have e : PyData.eqv (toPy (.tup xs)) (toPy (.tup ys)) = b := by
    rw [Bool.eq_iff_iff, eqv_t p1 p2, hb]; simp
  rw [e]; exact h
/-- x in t, data -/
theorem oInT {x y : D} {ys : List D} (hy : itemsOf M y = some ys) (h1 : okT x = true) (h2 : okTs ys = true) (k1 : dpD x ≤ 64) (hb : b = true ↔ x ∈ ys) (h : q (.bl (if neg then !b else b)) M) : oIn2 neg x y M q := by
  refine .inl ⟨ys, toPy x, toPys ys, hy, pd_t M h1, pds_t M h2, shaped_t h1 k1, cans_t h2, ?_⟩
  have e : ((toPys ys).any fun z => PyData.eqv z (toPy x)) = b := by
    rw [Bool.eq_iff_iff, hb]
    clear hb h hy
    induction ys with
    | nil => simp [toPys]
    | cons y ys ih =>
      rw [okTs, Bool.and_eq_true] at h2
      rw [toPys, List.any_cons, Bool.or_eq_true, eqv_t h2.1 h1, ih h2.2, List.mem_cons]
      constructor
      · rintro (h | h)
        · exact .inl h.symm
        · exact .inr h
      · rintro (h | h)
        · exact .inl h.symm
        · exact .inr h
  rw [e]; exact h
end
theorem okTs_map {α : Type} {c : α → D} {as : List α} (h : ∀ a ∈ as, okT (c a) = true) : okTs (as.map c) = true := by
  induction as with
  | nil => rfl
  | cons a as ih => rw [List.map_cons, okTs, h a List.mem_cons_self, ih fun b hb => h b (List.mem_cons_of_mem _ hb)]; rfl
theorem okTs_int (w : List Int) : okTs (w.map D.int) = true := okTs_map fun _ _ => rfl
theorem dpDs_map {α : Type} {c : α → D} {as : List α} {n : Nat} (h : ∀ a ∈ as, dpD (c a) ≤ n) : dpDs (as.map c) ≤ n := by
  induction as with
  | nil => exact Nat.zero_le _
  | cons a as ih =>
    rw [List.map_cons, dpDs]
    have h1 := h a List.mem_cons_self
    have h2 := ih fun b hb => h b (List.mem_cons_of_mem _ hb)
    omega
theorem oIn_ints {M : Mm} {q : Kd} {neg : Bool} {x : Int} {w : List Int} (h : q (.bl (if neg then !decide (x ∈ w) else decide (x ∈ w))) M) : oIn2 neg (.int x) (.tup (w.map D.int)) M q :=
  oInT (b := decide (x ∈ w)) rfl rfl (okTs_int w) (by simp [dpD]) (by simp) h
end Lk
set_option Elab.async false
set_option linter.all false
set_option maxRecDepth 100000
set_option maxHeartbeats 4000000
/-! Lark, part 28: a tuple by 0, by 1. -/
namespace Lk
open PySem PySem.Spec PyProof.Rows L2
theorem tuple_mul0 (l : Addr) (items : Array Value) (n : Nat) (dd : Option Addr) (sl : Array (Option Value)) (u : Tok) (he : items.isEmpty = false) :
    Meets (Builtin.«tuple.__mul__» ⟨[.ref l, .int 0 u], []⟩) (fun _ R s => s.heap.get? l = some { cls := .type "tuple", dict := dd, data := .seq items n, slots := sl } ∧
      R (.ok (.ret (Value.ref s.heap.objs.size))) { s with heap := s.heap.push { cls := Value.type "tuple", data := Data.seq #[] }, toks := s.toks }) :=
  .of_wp fun prog w A R s h => by
    obtain ⟨hp, g, d, tk, os⟩ := s
    obtain ⟨hl, h⟩ := h
    have f1 := AutoSeq1.idx_int
    have c1 : (items.isEmpty || (0 : Int) == 1) = false := by rw [he]; rfl
    wp_walk using wpAny_loadPart' hl
    repeat (first
      | (refine wpAny_ite_false (decide_eq_false (by decide)) ?_; wp_walk using wpAny_loadPart' hl)
      | (refine wpAny_ite_false (decide_eq_false (by rw [c1]; exact Bool.false_ne_true)) ?_; wp_walk using wpAny_loadPart' hl))
    exact ⟨_, rfl, h⟩
theorem tuple_mul1 (l : Addr) (items : Array Value) (n : Nat) (dd : Option Addr) (sl : Array (Option Value)) (u : Tok) :
    Meets (Builtin.«tuple.__mul__» ⟨[.ref l, .int 1 u], []⟩) (fun _ R s => s.heap.get? l = some { cls := .type "tuple", dict := dd, data := .seq items n, slots := sl } ∧ R (.ok (.ret (Value.ref l))) s) :=
  .of_wp fun prog w A R s h => by
    obtain ⟨hp, g, d, tk, os⟩ := s
    obtain ⟨hl, h⟩ := h
    have f1 := AutoSeq1.idx_int
    have c1 : (items.isEmpty || (1 : Int) == 1) = true := by simp
    wp_walk using wpAny_loadPart' hl
    repeat (first
      | (refine wpAny_ite_false (decide_eq_false (by decide)) ?_; wp_walk using wpAny_loadPart' hl)
      | (refine wpAny_ite_true (decide_eq_true c1) ?_; wp_walk using wpAny_loadPart' hl))
    exact ⟨_, rfl, h⟩
section
variable {X : Cx} {T : List Addr}
def rRep01 (K : PySem.W.Frag) : R2 := fun x y H Q => ∃ l k xs, x = .ref l ∧ y = .int k ∧ SqT K H l xs ∧ xs ≠ [] ∧ ((k = 0 ∧ ∀ p, H p = none → Q (.ref p) (upd H p (.tup []))) ∨ (k = 1 ∧ Q (.ref l) H))
theorem op_rep01 : OpR X (binaryOp .Mult) (rRep01 X.K) := by
  intro pins s σ H x y v u Q I rx ry h
  obtain ⟨l, k, xs, rfl, rfl, hT, hne, q⟩ := h
  cases rx
  obtain ⟨t, rfl⟩ := ry
  obtain ⟨its, r, ⟨⟨cls, dd, data, sl⟩, ho, hc, n, hd⟩, hs⟩ := I.tuple hT
  simp only at hc hd
  subst hc hd
  have hle : its.length = xs.length := r.length.symm
  have hi : its.toArray.isEmpty = false := by
    cases its with
    | nil => exact absurd (List.eq_nil_of_length_eq_zero hle.symm) hne
    | cons a b => rfl
  rcases q with ⟨rfl, q⟩ | ⟨rfl, q⟩
  · refine wpAny_binaryOp_repeat_ref (T := "tuple") (U := "int") (by decide) ⟨_, ho, rfl⟩ (fun s' => typeIs_int s' 0 t) noFill_tuple_mul F.fills_int_mul F.slot_int_rmul repeat_tuple F.slot_int_index.lookup
      (call_meets F.slot_int_rmul (typeIs_int s 0 t) F.entry_int_rmul (F.args_int_rmul_2 _ _) (int_rmul_tuple 0 t l its.toArray n dd sl)
        ⟨ho, rfl, ⟨_, ho, rfl⟩, call_meets F.slot_tuple_mul ⟨_, ho, rfl⟩ F.entry_tuple_mul (F.args_tuple_mul_2 _ _) (tuple_mul0 l its.toArray n dd sl t hi) ⟨ho, ?_⟩⟩)
    refine ⟨.ref s.heap.objs.size, _, I.laid (t' := s.toks) (o := .tup []) (fun b ob q => Heap.get?_push_of_some _ q) (Nat.le_refl _) ?_, rfl, q _ (I.hok.fresh (Nat.le_refl _))⟩
    exact ⟨Nat.zero_le _, _, .nil, IsTup.new _ _⟩
  · refine wpAny_binaryOp_repeat_ref (T := "tuple") (U := "int") (by decide) ⟨_, ho, rfl⟩ (fun s' => typeIs_int s' 1 t) noFill_tuple_mul F.fills_int_mul F.slot_int_rmul repeat_tuple F.slot_int_index.lookup
      (call_meets F.slot_int_rmul (typeIs_int s 1 t) F.entry_int_rmul (F.args_int_rmul_2 _ _) (int_rmul_tuple 1 t l its.toArray n dd sl)
        ⟨ho, rfl, ⟨_, ho, rfl⟩, call_meets F.slot_tuple_mul ⟨_, ho, rfl⟩ F.entry_tuple_mul (F.args_tuple_mul_2 _ _) (tuple_mul1 l its.toArray n dd sl t) ⟨ho, ?_⟩⟩)
    exact ⟨.ref l, H, I, rfl, q⟩
/-- * of ints, of a list or a tuple and an int -/
def oMul2 : D2 := fun x y M q => match x, y with
  | .tup xs, .int k => xs ≠ [] ∧ 0 ≤ k ∧ k ≤ 1000 ∧ xs.length ≤ 1000 ∧ q (.tup (List.replicate k.toNat xs).flatten) M
  | x, y => oMul x y M q
theorem opd_mul2 : OP' X T (binaryOp .Mult) oMul2 := by
  intro pins s σ H x y v u Q I rx ry ⟨d, e, M, q, hd, he, hM, z, k⟩
  have gen : oMul d e M q → wpAny (model X.prog X.w) X.A (binaryOp .Mult v u) (EP X pins σ Q) X.xe s := fun z =>
    opd_mul (T := T) pins s σ H x y v u Q I rx ry ⟨d, e, M, q, hd, he, hM, z, k⟩
  cases hd with
  | tup hT hl =>
    rename_i l ds vs
    cases he with
    | int j =>
      obtain ⟨hne, h0, h1, h2, z⟩ := z
      have hvl := hl.length
      have hvne : vs ≠ [] := fun e => by rw [e] at hvl; exact hne (List.eq_nil_of_length_eq_zero hvl)
      rcases Int.lt_or_le j 2 with hj | hj
      · have hj2 : j = 0 ∨ j = 1 := by omega
        rcases hj2 with rfl | rfl
        · refine op_rep01 pins s σ H _ _ v u Q I rx ry ⟨l, 0, vs, rfl, rfl, hT, hvne, .inl ⟨rfl, fun p hp => ?_⟩⟩
          refine k _ _ _ _ (Ext.upd_new hp) (.tup (vs := []) ?_ .nil) (hM.newT hp) z
          exact SqT.of upd_same
        · refine op_rep01 pins s σ H _ _ v u Q I rx ry ⟨l, 1, vs, rfl, rfl, hT, hvne, .inr ⟨rfl, ?_⟩⟩
          refine k _ _ _ _ .refl (.tup hT hl) hM ?_
          simpa using z
      · refine op_repT pins s σ H _ _ v u Q I rx ry ⟨l, j, vs, rfl, rfl, hT, hvne, hj, h1, by omega, fun p hp => ?_⟩
        refine k _ _ _ _ (Ext.upd_new hp) (.tup (vs := (List.replicate j.toNat vs).flatten) (SqT.of upd_same) ((hl.rep _).mono (Ext.upd_new hp))) (hM.newT hp) z
    | _ => exact gen z
  | _ => cases he <;> exact gen z
end
@[simp] theorem u_oMul2 {M : Mm} {q : Kd} {x y : Int} : oMul2 (.int x) (.int y) M q = (MulOk x y ∧ q (.int (x * y)) M) := rfl
@[simp] theorem u_oMul2_r {M : Mm} {q : Kd} {x : Addr} {y : Int} : oMul2 (.ref x) (.int y) M q = oMul (.ref x) (.int y) M q := rfl
@[simp] theorem u_oMul2_t {M : Mm} {q : Kd} {xs : List D} {k : Int} : oMul2 (.tup xs) (.int k) M q = (xs ≠ [] ∧ 0 ≤ k ∧ k ≤ 1000 ∧ xs.length ≤ 1000 ∧ q (.tup (List.replicate k.toNat xs).flatten) M) := rfl
end Lk
set_option Elab.async false
set_option linter.all false
set_option maxRecDepth 100000
set_option maxHeartbeats 1000000
/-! Lark, part 29: the same, at depth 0. -/
namespace Lk
open PySem PySem.Spec PyProof.Rows L2
theorem pl_same_0 {sp : DSp} : ∀ ds M q ex, sp_same 0 ds M q ex → rSame sp ex { nx := fun _ M' => Wq q .non M', rt := Wq q } (startD ["told", "due", "k"] ds) M := by
  intro ds M q ex h
  unfold sp_same at h
  split at h; case h_2 => exact h.elim
  obtain ⟨hs, h⟩ := h
  cases hs with
  | non n => simp [rSame, startD]; exact Wq.of h
  | bl n b => cases b <;> simp [rSame, startD] <;> exact Wq.of h
  | int n i => simp [rSame, startD]; exact Wq.of h
  | str n x => simp [rSame, startD]; exact Wq.of h
end Lk
set_option Elab.async false
set_option linter.all false
set_option maxRecDepth 100000
set_option maxHeartbeats 4000000
/-! printed by gen.py: the walks of the defs. -/
namespace Wk98
open PySem PySem.Spec PyProof.Rows L2 Lk
/-- what the walks take of the globals -/
structure Gm (mg : Str → Option Value) : Prop where
  n_abs : mg "abs" = none
  n_all : mg "all" = none
  n_any : mg "any" = none
  n_bool : mg "bool" = none
  n_enumerate : mg "enumerate" = none
  n_int : mg "int" = none
  n_isinstance : mg "isinstance" = none
  n_len : mg "len" = none
  n_list : mg "list" = none
  n_max : mg "max" = none
  n_min : mg "min" = none
  n_range : mg "range" = none
  n_repr : mg "repr" = none
  n_sorted : mg "sorted" = none
  n_str : mg "str" = none
  n_tuple : mg "tuple" = none
  n_zip : mg "zip" = none
  c_MOST_LETTERS : ∃ t, mg "MOST_LETTERS" = some (.int 3 t)
  c_MOST_ROADS : ∃ t, mg "MOST_ROADS" = some (.int 2 t)
  c_SEND : ∃ t, mg "SEND" = some (.int 1 t)
theorem sc_is_integer : FnScope ["value"] ["value"] (defScope s_is_integer) := ⟨rfl, rfl, rfl, by decide +kernel, rfl, by decide +kernel, by decide +kernel⟩
def r_is_integer : DS := rSeq (rRet (rAndV (rArg bIsi2 (rCons (rVar 0) (rCons (rCst (.ty "int")) (rNil)))) (rNotV (rArg bIsi2 (rCons (rVar 0) (rCons (rCst (.ty "bool")) (rNil))))))) (rNext)
theorem w_is_integer {P : Program} {w : World} {K : PySem.W.Frag} {T : List Addr} {mg : Str → Option Value} {base : Heap} {k : Nat} {A : Around} {outer : List Env} {s : Shared} {H : Hp} {E : XK} {ex : EK} {c Pt fA : Addr}
    (hr : RoomG (k + 0) (A.deeper (envOfC "is_integer" (defScope s_is_integer) s.heap.objs.size fA (.ref c)))) (G : Gm mg) :
    SsP' (bx P w K mg base ["value"] "is_integer" (defScope s_is_integer) fA (.ref c) A outer s H E) T ex (defBody s_is_integer) (r_is_integer) := by
  unfold r_is_integer
  exact ds_cons (ds_ret (de_and (de_callB cl_isi2 rfl G.n_isinstance rfl (da_cons (de_var (i := 0) rfl (.inl rfl) rfl rfl) (da_cons (de_ty rfl G.n_int rfl (by decide) rfl) (da_nil) rfl) rfl) (by decide) rfl rfl rfl) (de_one (de_not (de_callB cl_isi2 rfl G.n_isinstance rfl (da_cons (de_var (i := 0) rfl (.inl rfl) rfl rfl) (da_cons (de_ty rfl G.n_bool rfl (by decide) rfl) (da_nil) rfl) rfl) (by decide) rfl rfl rfl))))) (ds_nil)
theorem sc_is_natural : FnScope ["value"] ["value"] (defScope s_is_natural) := ⟨rfl, rfl, rfl, by decide +kernel, rfl, by decide +kernel, by decide +kernel⟩
def r_is_natural (sp_is_integer : DSp) : DS := rSeq (rRet (rAndV (rCall sp_is_integer 1 (rCons (rVar 0) (rNil))) (rBin oGe (rVar 0) (rCst (.int 0))))) (rNext)
theorem w_is_natural {P : Program} {w : World} {K : PySem.W.Frag} {T : List Addr} {mg : Str → Option Value} {base : Heap} {k : Nat} {A : Around} {outer : List Env} {s : Shared} {H : Hp} {E : XK} {ex : EK} {c Pt fA : Addr} {sp_is_integer : DSp}
    (hr : RoomG (k + 0) (A.deeper (envOfC "is_natural" (defScope s_is_natural) s.heap.objs.size fA (.ref c)))) (G : Gm mg) (C_is_integer : Cal ⟨P, w, K, T⟩ mg base k "is_integer" ["value"] sp_is_integer) :
    SsP' (bx P w K mg base ["value"] "is_natural" (defScope s_is_natural) fA (.ref c) A outer s H E) T ex (defBody s_is_natural) (r_is_natural sp_is_integer) := by
  unfold r_is_natural
  exact ds_cons (ds_ret (de_and (de_cal (ps := ["value"]) C_is_integer hr rfl (da_cons (de_var (i := 0) rfl (.inl rfl) rfl rfl) (da_nil) rfl) rfl rfl rfl) (de_one (de_cmp opd_ge (de_var (i := 0) rfl (.inl rfl) rfl rfl) (de_int) rfl)))) (ds_nil)
theorem sc_is_below : FnScope ["value", "many"] ["value", "many"] (defScope s_is_below) := ⟨rfl, rfl, rfl, by decide +kernel, rfl, by decide +kernel, by decide +kernel⟩
def r_is_below (sp_is_natural : DSp) : DS := rSeq (rRet (rAndV (rCall sp_is_natural 1 (rCons (rVar 0) (rNil))) (rBin oLt2 (rVar 0) (rVar 1)))) (rNext)
theorem w_is_below {P : Program} {w : World} {K : PySem.W.Frag} {T : List Addr} {mg : Str → Option Value} {base : Heap} {k : Nat} {A : Around} {outer : List Env} {s : Shared} {H : Hp} {E : XK} {ex : EK} {c Pt fA : Addr} {sp_is_natural : DSp}
    (hr : RoomG (k + 0) (A.deeper (envOfC "is_below" (defScope s_is_below) s.heap.objs.size fA (.ref c)))) (G : Gm mg) (C_is_natural : Cal ⟨P, w, K, T⟩ mg base k "is_natural" ["value"] sp_is_natural) :
    SsP' (bx P w K mg base ["value", "many"] "is_below" (defScope s_is_below) fA (.ref c) A outer s H E) T ex (defBody s_is_below) (r_is_below sp_is_natural) := by
  unfold r_is_below
  exact ds_cons (ds_ret (de_and (de_cal (ps := ["value"]) C_is_natural hr rfl (da_cons (de_var (i := 0) rfl (.inl rfl) rfl rfl) (da_nil) rfl) rfl rfl rfl) (de_one (de_cmp (opd_lt2 (hr).u) (de_var (i := 0) rfl (.inl rfl) rfl rfl) (de_var (i := 1) rfl (.inl rfl) rfl rfl) rfl)))) (ds_nil)
theorem sc_is_between : FnScope ["value", "low", "high"] ["value", "low", "high"] (defScope s_is_between) := ⟨rfl, rfl, rfl, by decide +kernel, rfl, by decide +kernel, by decide +kernel⟩
def r_is_between (sp_is_integer : DSp) : DS := rSeq (rRet (rAndV (rCall sp_is_integer 1 (rCons (rVar 0) (rNil))) (rChain oLe oLe (rVar 1) (rVar 0) (rVar 2)))) (rNext)
theorem w_is_between {P : Program} {w : World} {K : PySem.W.Frag} {T : List Addr} {mg : Str → Option Value} {base : Heap} {k : Nat} {A : Around} {outer : List Env} {s : Shared} {H : Hp} {E : XK} {ex : EK} {c Pt fA : Addr} {sp_is_integer : DSp}
    (hr : RoomG (k + 0) (A.deeper (envOfC "is_between" (defScope s_is_between) s.heap.objs.size fA (.ref c)))) (G : Gm mg) (C_is_integer : Cal ⟨P, w, K, T⟩ mg base k "is_integer" ["value"] sp_is_integer) :
    SsP' (bx P w K mg base ["value", "low", "high"] "is_between" (defScope s_is_between) fA (.ref c) A outer s H E) T ex (defBody s_is_between) (r_is_between sp_is_integer) := by
  unfold r_is_between
  exact ds_cons (ds_ret (de_and (de_cal (ps := ["value"]) C_is_integer hr rfl (da_cons (de_var (i := 0) rfl (.inl rfl) rfl rfl) (da_nil) rfl) rfl rfl rfl) (de_one (de_chain opd_le opd_le (de_var (i := 1) rfl (.inl rfl) rfl rfl) (de_var (i := 0) rfl (.inl rfl) rfl rfl) (de_var (i := 2) rfl (.inl rfl) rfl rfl) rfl)))) (ds_nil)
theorem sc_is_k : FnScope ["value"] ["value"] (defScope s_is_k) := ⟨rfl, rfl, rfl, by decide +kernel, rfl, by decide +kernel, by decide +kernel⟩
def r_is_k (sp_is_between : DSp) : DS := rSeq (rRet (rCall sp_is_between 3 (rCons (rVar 0) (rCons (rCst (.int 1)) (rCons (rCst (.int 3)) (rNil)))))) (rNext)
theorem w_is_k {P : Program} {w : World} {K : PySem.W.Frag} {T : List Addr} {mg : Str → Option Value} {base : Heap} {k : Nat} {A : Around} {outer : List Env} {s : Shared} {H : Hp} {E : XK} {ex : EK} {c Pt fA : Addr} {sp_is_between : DSp}
    (hr : RoomG (k + 0) (A.deeper (envOfC "is_k" (defScope s_is_k) s.heap.objs.size fA (.ref c)))) (G : Gm mg) (C_is_between : Cal ⟨P, w, K, T⟩ mg base k "is_between" ["value", "low", "high"] sp_is_between) :
    SsP' (bx P w K mg base ["value"] "is_k" (defScope s_is_k) fA (.ref c) A outer s H E) T ex (defBody s_is_k) (r_is_k sp_is_between) := by
  unfold r_is_k
  exact ds_cons (ds_ret (de_cal (ps := ["value", "low", "high"]) C_is_between hr rfl (da_cons (de_var (i := 0) rfl (.inl rfl) rfl rfl) (da_cons (de_int) (da_cons (de_gint rfl G.c_MOST_LETTERS rfl) (da_nil) rfl) rfl) rfl) rfl rfl rfl)) (ds_nil)
theorem sc_is_letters : FnScope ["k", "value"] ["k", "value"] (defScope s_is_letters) := ⟨rfl, rfl, rfl, by decide +kernel, rfl, by decide +kernel, by decide +kernel⟩
def r_is_letters (sp_is_below : DSp) : DS := rSeq (rRet (rAndV (rArg bIsi2 (rCons (rVar 1) (rCons (rCst (.ty "tuple")) (rNil)))) (rAG false 1 [0] (rItV (rVar 1)) (rgName 0) (rCall sp_is_below 2 (rCons (rVar 0) (rCons (rVar 1) (rNil))))))) (rNext)
theorem w_is_letters {P : Program} {w : World} {K : PySem.W.Frag} {T : List Addr} {mg : Str → Option Value} {base : Heap} {k : Nat} {A : Around} {outer : List Env} {s : Shared} {H : Hp} {E : XK} {ex : EK} {c Pt fA : Addr} {sp_is_below : DSp}
    (hr : RoomG (k + 1) (A.deeper (envOfC "is_letters" (defScope s_is_letters) s.heap.objs.size fA (.ref c)))) (G : Gm mg) (C_is_below : Cal ⟨P, w, K, T⟩ mg base k "is_below" ["value", "many"] sp_is_below) (TB : GxR.TabB base mg c Pt) (hP : Pt ∈ T) :
    SsP' (bx P w K mg base ["k", "value"] "is_letters" (defScope s_is_letters) fA (.ref c) A outer s H E) T ex (defBody s_is_letters) (r_is_letters sp_is_below) := by
  unfold r_is_letters
  exact ds_cons (ds_ret (de_and (de_callB cl_isi2 rfl G.n_isinstance rfl (da_cons (de_var (i := 1) rfl (.inl rfl) rfl rfl) (da_cons (de_ty rfl G.n_tuple rfl (by decide) rfl) (da_nil) rfl) rfl) (by decide) rfl rfl rfl) (de_one (de_gx (stop := false) (own := ["letter"]) (capn := ["k"]) (caps := [0]) rfl hr rfl rfl G.n_all TB hP rfl (gxOk_by rfl) (di_val (de_var (i := 1) rfl (.inl rfl) rfl rfl)) (fun _ => rfl) (by decide) (fun s H C cl code bi A fp pn => dg_name (i := 0) (nd rfl) rfl (.inl rfl) (.inr rfl)) (fun s H C cl code bi A fp pn hr' => de_cal (ps := ["value", "many"]) C_is_below hr' rfl (da_cons (de_var (i := 0) rfl (.inl rfl) rfl rfl) (da_cons (de_var (i := 1) rfl (.inr (.inr rfl)) rfl rfl) (da_nil) rfl) rfl) rfl rfl rfl) rfl)))) (ds_nil)
theorem sc_check_k : FnScope ["k"] ["k"] (defScope s_check_k) := ⟨rfl, rfl, rfl, by decide +kernel, rfl, by decide +kernel, by decide +kernel⟩
def r_check_k (sp_is_k : DSp) : DS := rSeq (rIfS (rNot (rTru (rCall sp_is_k 1 (rCons (rVar 0) (rNil))))) (rSeq (rNever) (rNext)) (rNext)) (rNext)
theorem w_check_k {P : Program} {w : World} {K : PySem.W.Frag} {T : List Addr} {mg : Str → Option Value} {base : Heap} {k : Nat} {A : Around} {outer : List Env} {s : Shared} {H : Hp} {E : XK} {ex : EK} {c Pt fA : Addr} {sp_is_k : DSp}
    (hr : RoomG (k + 0) (A.deeper (envOfC "check_k" (defScope s_check_k) s.heap.objs.size fA (.ref c)))) (G : Gm mg) (C_is_k : Cal ⟨P, w, K, T⟩ mg base k "is_k" ["value"] sp_is_k) :
    SsP' (bx P w K mg base ["k"] "check_k" (defScope s_check_k) fA (.ref c) A outer s H E) T ex (defBody s_check_k) (r_check_k sp_is_k) := by
  unfold r_check_k
  exact ds_cons (ds_if (dt_not (de_tru (de_cal (ps := ["value"]) C_is_k hr rfl (da_cons (de_var (i := 0) rfl (.inl rfl) rfl rfl) (da_nil) rfl) rfl rfl rfl) (fun _ => rfl))) (ds_cons (ds_never) (ds_nil)) (ds_nil)) (ds_nil)
theorem sc_is_ascending : FnScope ["some"] ["some"] (defScope s_is_ascending) := ⟨rfl, rfl, rfl, by decide +kernel, rfl, by decide +kernel, by decide +kernel⟩
def r_is_ascending : DS := rSeq (rRet (rAG false 2 [] (rItZ (rCons (rVar 0) (rCons (rCut (rVar 0) (rPart (rCst (.int 1))) (rNoP)) (rNil)))) (rgTup 2 (rgCons (rgName 0) (rgCons (rgName 1) (rgNil)))) (rBin oLt2 (rVar 0) (rVar 1)))) (rNext)
theorem w_is_ascending {P : Program} {w : World} {K : PySem.W.Frag} {T : List Addr} {mg : Str → Option Value} {base : Heap} {k : Nat} {A : Around} {outer : List Env} {s : Shared} {H : Hp} {E : XK} {ex : EK} {c Pt fA : Addr}
    (hr : RoomG (k + 1) (A.deeper (envOfC "is_ascending" (defScope s_is_ascending) s.heap.objs.size fA (.ref c)))) (G : Gm mg) (TB : GxR.TabB base mg c Pt) (hP : Pt ∈ T) :
    SsP' (bx P w K mg base ["some"] "is_ascending" (defScope s_is_ascending) fA (.ref c) A outer s H E) T ex (defBody s_is_ascending) (r_is_ascending) := by
  unfold r_is_ascending
  exact ds_cons (ds_ret (de_gx (stop := false) (own := ["one", "other"]) (capn := []) (caps := []) rfl hr rfl rfl G.n_all TB hP rfl (gxOk_by rfl) (di_zip rfl G.n_zip (da_cons (de_var (i := 0) rfl (.inl rfl) rfl rfl) (da_cons (de_cut (de_var (i := 0) rfl (.inl rfl) rfl rfl) (do_some (de_int)) (do_none)) (da_nil) rfl) rfl) rfl rfl) (fun _ => rfl) (by decide) (fun s H C cl code bi A fp pn => dg_tup rfl (dgs_cons (dg_name (i := 0) (nd rfl) rfl (.inl rfl) (.inr rfl)) (dgs_cons (dg_name (i := 1) (nd rfl) rfl (.inl rfl) (.inr rfl)) (dgs_nil) rfl) rfl) rfl rfl) (fun s H C cl code bi A fp pn hr' => de_cmp (opd_lt2 (hr').u) (de_var (i := 0) rfl (.inl rfl) rfl rfl) (de_var (i := 1) rfl (.inl rfl) rfl rfl) rfl) rfl)) (ds_nil)
theorem sc_is_word_of : FnScope ["k", "told"] ["k", "told"] (defScope s_is_word_of) := ⟨rfl, rfl, rfl, by decide +kernel, rfl, by decide +kernel, by decide +kernel⟩
def r_is_word_of (sp_is_letters : DSp) : DS := rSeq (rRet (rCall sp_is_letters 2 (rCons (rVar 0) (rCons (rVar 1) (rNil))))) (rNext)
theorem w_is_word_of {P : Program} {w : World} {K : PySem.W.Frag} {T : List Addr} {mg : Str → Option Value} {base : Heap} {k : Nat} {A : Around} {outer : List Env} {s : Shared} {H : Hp} {E : XK} {ex : EK} {c Pt fA : Addr} {sp_is_letters : DSp}
    (hr : RoomG (k + 0) (A.deeper (envOfC "is_word_of" (defScope s_is_word_of) s.heap.objs.size fA (.ref c)))) (G : Gm mg) (C_is_letters : Cal ⟨P, w, K, T⟩ mg base k "is_letters" ["k", "value"] sp_is_letters) :
    SsP' (bx P w K mg base ["k", "told"] "is_word_of" (defScope s_is_word_of) fA (.ref c) A outer s H E) T ex (defBody s_is_word_of) (r_is_word_of sp_is_letters) := by
  unfold r_is_word_of
  exact ds_cons (ds_ret (de_cal (ps := ["k", "value"]) C_is_letters hr rfl (da_cons (de_var (i := 0) rfl (.inl rfl) rfl rfl) (da_cons (de_var (i := 1) rfl (.inl rfl) rfl rfl) (da_nil) rfl) rfl) rfl rfl rfl)) (ds_nil)
theorem sc_check_word : FnScope ["k", "word"] ["k", "word"] (defScope s_check_word) := ⟨rfl, rfl, rfl, by decide +kernel, rfl, by decide +kernel, by decide +kernel⟩
def r_check_word (sp_is_word_of : DSp) : DS := rSeq (rIfS (rNot (rTru (rCall sp_is_word_of 2 (rCons (rVar 0) (rCons (rVar 1) (rNil)))))) (rSeq (rNever) (rNext)) (rNext)) (rNext)
theorem w_check_word {P : Program} {w : World} {K : PySem.W.Frag} {T : List Addr} {mg : Str → Option Value} {base : Heap} {k : Nat} {A : Around} {outer : List Env} {s : Shared} {H : Hp} {E : XK} {ex : EK} {c Pt fA : Addr} {sp_is_word_of : DSp}
    (hr : RoomG (k + 0) (A.deeper (envOfC "check_word" (defScope s_check_word) s.heap.objs.size fA (.ref c)))) (G : Gm mg) (C_is_word_of : Cal ⟨P, w, K, T⟩ mg base k "is_word_of" ["k", "told"] sp_is_word_of) :
    SsP' (bx P w K mg base ["k", "word"] "check_word" (defScope s_check_word) fA (.ref c) A outer s H E) T ex (defBody s_check_word) (r_check_word sp_is_word_of) := by
  unfold r_check_word
  exact ds_cons (ds_if (dt_not (de_tru (de_cal (ps := ["k", "told"]) C_is_word_of hr rfl (da_cons (de_var (i := 0) rfl (.inl rfl) rfl rfl) (da_cons (de_var (i := 1) rfl (.inl rfl) rfl rfl) (da_nil) rfl) rfl) rfl rfl rfl) (fun _ => rfl))) (ds_cons (ds_never) (ds_nil)) (ds_nil)) (ds_nil)
theorem sc_found_in : FnScope ["one", "other", "found", "at", "letter"] ["one", "other"] (defScope s_found_in) := ⟨rfl, rfl, rfl, by decide +kernel, rfl, by decide +kernel, by decide +kernel⟩
def r_found_in : DS := rSeq (rPar [2, 3] (rTup (rCons (rLst (rNil)) (rCons (rCst (.int 0)) (rNil))))) (rSeq (rFor (rItV (rVar 0)) (rgName 4) (rSeq (rWhile (rAnd (rTB (rBin oLt2 (rVar 3) (rArg bLen2 (rCons (rVar 1) (rNil))))) (rTB (rBin (oEq true) (rBin oIx2 (rVar 1) (rVar 3)) (rVar 4)))) (rSeq (rAug 3 oAddI (rCst (.int 1))) (rNext))) (rSeq (rIfS (rTB (rBin (oEq false) (rVar 3) (rArg bLen2 (rCons (rVar 1) (rNil))))) (rSeq (rRet (rCst .non)) (rNext)) (rNext)) (rSeq (rDrop (rMt mAppend "list" (rVar 2) (rCons (rVar 3) (rNil)))) (rSeq (rAug 3 oAddI (rCst (.int 1))) (rNext)))))) (rSeq (rRet (rArg bTuple (rCons (rVar 2) (rNil)))) (rNext)))
theorem w_found_in {P : Program} {w : World} {K : PySem.W.Frag} {T : List Addr} {mg : Str → Option Value} {base : Heap} {k : Nat} {A : Around} {outer : List Env} {s : Shared} {H : Hp} {E : XK} {ex : EK} {c Pt fA : Addr}
    (hr : RoomG (k + 0) (A.deeper (envOfC "found_in" (defScope s_found_in) s.heap.objs.size fA (.ref c)))) (G : Gm mg) :
    SsP' (bx P w K mg base ["one", "other", "found", "at", "letter"] "found_in" (defScope s_found_in) fA (.ref c) A outer s H E) T ex (defBody s_found_in) (r_found_in) := by
  unfold r_found_in
  exact ds_cons (ds_par2 (i := 2) (j := 3) rfl (nd rfl) rfl rfl rfl rfl (de_tup (da_cons (de_lst (da_nil)) (da_cons (de_int) (da_nil) rfl) rfl)) rfl rfl) (ds_cons (ds_for (never rfl) rfl (di_val (de_var (i := 0) rfl (.inl rfl) rfl rfl)) (dg_name (i := 4) (nd rfl) rfl (.inl rfl) (.inl rfl)) (ds_cons (ds_while (never rfl) (PW.pt (dt_and (de_cmpT (opd_lt2 (hr).u) (de_var (i := 3) rfl (.inl rfl) rfl rfl) (de_callB cl_len2 rfl G.n_len rfl (da_cons (de_var (i := 1) rfl (.inl rfl) rfl rfl) (da_nil) rfl) (by decide) rfl rfl rfl) rfl) (dt_and1 (de_cmpT (opd_ne (hr).u) (de_ix2 (hr).u (de_var (i := 1) rfl (.inl rfl) rfl rfl) (de_var (i := 3) rfl (.inl rfl) rfl rfl) (fun _ _ => rfl)) (de_var (i := 4) rfl (.inl rfl) rfl rfl) rfl)))) (ds_cons (ds_aug (i := 3) (nd rfl) rfl (.inl rfl) (de_int) ipd_add (.inl rfl)) (ds_nil))) (ds_cons (ds_if (de_cmpT (opd_eq (hr).u) (de_var (i := 3) rfl (.inl rfl) rfl rfl) (de_callB cl_len2 rfl G.n_len rfl (da_cons (de_var (i := 1) rfl (.inl rfl) rfl rfl) (da_nil) rfl) (by decide) rfl rfl rfl) rfl) (ds_cons (ds_ret (de_non)) (ds_nil)) (ds_nil)) (ds_cons (ds_drop (de_mt PySem.F.plainAttrs_list PySem.F.slot_list_append PySem.F.type_list_append (.inl rfl) ml_append (de_var (i := 2) rfl (.inl rfl) rfl rfl) (da_cons (de_var (i := 3) rfl (.inl rfl) rfl rfl) (da_nil) rfl) rfl rfl rfl rfl rfl) rfl) (ds_cons (ds_aug (i := 3) (nd rfl) rfl (.inl rfl) (de_int) ipd_add (.inl rfl)) (ds_nil))))) (fun _ => rfl)) (ds_cons (ds_ret (de_callTy cl_tuple rfl G.n_tuple rfl (da_cons (de_var (i := 2) rfl (.inl rfl) rfl rfl) (da_nil) rfl) (by decide) rfl rfl rfl)) (ds_nil)))
theorem sc_strewn_in : FnScope ["one", "other"] ["one", "other"] (defScope s_strewn_in) := ⟨rfl, rfl, rfl, by decide +kernel, rfl, by decide +kernel, by decide +kernel⟩
def r_strewn_in (sp_found_in : DSp) : DS := rSeq (rRet (rBin (oIs true) (rCall sp_found_in 2 (rCons (rVar 0) (rCons (rVar 1) (rNil)))) (rCst .non))) (rNext)
theorem w_strewn_in {P : Program} {w : World} {K : PySem.W.Frag} {T : List Addr} {mg : Str → Option Value} {base : Heap} {k : Nat} {A : Around} {outer : List Env} {s : Shared} {H : Hp} {E : XK} {ex : EK} {c Pt fA : Addr} {sp_found_in : DSp}
    (hr : RoomG (k + 0) (A.deeper (envOfC "strewn_in" (defScope s_strewn_in) s.heap.objs.size fA (.ref c)))) (G : Gm mg) (C_found_in : Cal ⟨P, w, K, T⟩ mg base k "found_in" ["one", "other"] sp_found_in) :
    SsP' (bx P w K mg base ["one", "other"] "strewn_in" (defScope s_strewn_in) fA (.ref c) A outer s H E) T ex (defBody s_strewn_in) (r_strewn_in sp_found_in) := by
  unfold r_strewn_in
  exact ds_cons (ds_ret (de_cmp opd_isNot (de_cal (ps := ["one", "other"]) C_found_in hr rfl (da_cons (de_var (i := 0) rfl (.inl rfl) rfl rfl) (da_cons (de_var (i := 1) rfl (.inl rfl) rfl rfl) (da_nil) rfl) rfl) rfl rfl rfl) (de_non) rfl)) (ds_nil)
theorem sc_is_deed : FnScope ["k", "roads", "told"] ["k", "roads", "told"] (defScope s_is_deed) := ⟨rfl, rfl, rfl, by decide +kernel, rfl, by decide +kernel, by decide +kernel⟩
def r_is_deed (sp_is_between : DSp) : DS := rSeq (rIfS (rOr (rNot (rTru (rArg bIsi2 (rCons (rVar 2) (rCons (rCst (.ty "tuple")) (rNil)))))) (rOr (rTB (rBin (oIn2 true) (rArg bLen2 (rCons (rVar 2) (rNil))) (rTup (rCons (rCst (.int 1)) (rCons (rCst (.int 3)) (rNil)))))) (rNot (rTru (rCall sp_is_between 3 (rCons (rBin oIx2 (rVar 2) (rCst (.int 0))) (rCons (rCst (.int 0)) (rCons (rCst (.int 2)) (rNil))))))))) (rSeq (rRet (rCst (.bl false))) (rNext)) (rNext)) (rSeq (rIfS (rTB (rBin (oEq false) (rBin oIx2 (rVar 2) (rCst (.int 0))) (rCst (.int 0)))) (rSeq (rRet (rBin (oEq false) (rArg bLen2 (rCons (rVar 2) (rNil))) (rCst (.int 1)))) (rNext)) (rNext)) (rSeq (rRet (rAndV (rBin (oEq false) (rArg bLen2 (rCons (rVar 2) (rNil))) (rCst (.int 3))) (rAndV (rCall sp_is_between 3 (rCons (rBin oIx2 (rVar 2) (rCst (.int 1))) (rCons (rCst (.int 0)) (rCons (rBin oSub (rVar 1) (rCst (.int 1))) (rNil))))) (rCall sp_is_between 3 (rCons (rBin oIx2 (rVar 2) (rCst (.int 2))) (rCons (rCst (.int 0)) (rCons (rBin oSub (rVar 0) (rCst (.int 1))) (rNil)))))))) (rNext)))
theorem w_is_deed {P : Program} {w : World} {K : PySem.W.Frag} {T : List Addr} {mg : Str → Option Value} {base : Heap} {k : Nat} {A : Around} {outer : List Env} {s : Shared} {H : Hp} {E : XK} {ex : EK} {c Pt fA : Addr} {sp_is_between : DSp}
    (hr : RoomG (k + 0) (A.deeper (envOfC "is_deed" (defScope s_is_deed) s.heap.objs.size fA (.ref c)))) (G : Gm mg) (C_is_between : Cal ⟨P, w, K, T⟩ mg base k "is_between" ["value", "low", "high"] sp_is_between) :
    SsP' (bx P w K mg base ["k", "roads", "told"] "is_deed" (defScope s_is_deed) fA (.ref c) A outer s H E) T ex (defBody s_is_deed) (r_is_deed sp_is_between) := by
  unfold r_is_deed
  exact ds_cons (ds_if (PW.pt (dt_or (dt_not (de_tru (de_callB cl_isi2 rfl G.n_isinstance rfl (da_cons (de_var (i := 2) rfl (.inl rfl) rfl rfl) (da_cons (de_ty rfl G.n_tuple rfl (by decide) rfl) (da_nil) rfl) rfl) (by decide) rfl rfl rfl) (fun _ => rfl))) (dt_or (de_cmpT (opd_in (hr).u true) (de_callB cl_len2 rfl G.n_len rfl (da_cons (de_var (i := 2) rfl (.inl rfl) rfl rfl) (da_nil) rfl) (by decide) rfl rfl rfl) (de_tup (da_cons (de_int) (da_cons (de_int) (da_nil) rfl) rfl)) rfl) (dt_or1 (dt_not (de_tru (de_cal (ps := ["value", "low", "high"]) C_is_between hr rfl (da_cons (de_ix2 (hr).u (de_var (i := 2) rfl (.inl rfl) rfl rfl) (de_int) (fun _ _ => rfl)) (da_cons (de_int) (da_cons (de_int) (da_nil) rfl) rfl) rfl) rfl rfl rfl) (fun _ => rfl))))))) (ds_cons (ds_ret (de_bl)) (ds_nil)) (ds_nil)) (ds_cons (ds_if (de_cmpT (opd_eq (hr).u) (de_ix2 (hr).u (de_var (i := 2) rfl (.inl rfl) rfl rfl) (de_int) (fun _ _ => rfl)) (de_int) rfl) (ds_cons (ds_ret (de_cmp (opd_eq (hr).u) (de_callB cl_len2 rfl G.n_len rfl (da_cons (de_var (i := 2) rfl (.inl rfl) rfl rfl) (da_nil) rfl) (by decide) rfl rfl rfl) (de_int) rfl)) (ds_nil)) (ds_nil)) (ds_cons (ds_ret (de_and (de_cmp (opd_eq (hr).u) (de_callB cl_len2 rfl G.n_len rfl (da_cons (de_var (i := 2) rfl (.inl rfl) rfl rfl) (da_nil) rfl) (by decide) rfl rfl rfl) (de_int) rfl) (de_and (de_cal (ps := ["value", "low", "high"]) C_is_between hr rfl (da_cons (de_ix2 (hr).u (de_var (i := 2) rfl (.inl rfl) rfl rfl) (de_int) (fun _ _ => rfl)) (da_cons (de_int) (da_cons (de_bin opd_sub (de_var (i := 1) rfl (.inl rfl) rfl rfl) (de_int)) (da_nil) rfl) rfl) rfl) rfl rfl rfl) (de_one (de_cal (ps := ["value", "low", "high"]) C_is_between hr rfl (da_cons (de_ix2 (hr).u (de_var (i := 2) rfl (.inl rfl) rfl rfl) (de_int) (fun _ _ => rfl)) (da_cons (de_int) (da_cons (de_bin opd_sub (de_var (i := 0) rfl (.inl rfl) rfl rfl) (de_int)) (da_nil) rfl) rfl) rfl) rfl rfl rfl))))) (ds_nil)))
theorem sc_is_step : FnScope ["k", "rooms", "roads", "told"] ["k", "rooms", "roads", "told"] (defScope s_is_step) := ⟨rfl, rfl, rfl, by decide +kernel, rfl, by decide +kernel, by decide +kernel⟩
def r_is_step (sp_is_between sp_is_deed : DSp) : DS := rSeq (rIfS (rOr (rNot (rTru (rArg bIsi2 (rCons (rVar 3) (rCons (rCst (.ty "tuple")) (rNil)))))) (rTB (rBin (oEq true) (rArg bLen2 (rCons (rVar 3) (rNil))) (rCst (.int 3))))) (rSeq (rRet (rCst (.bl false))) (rNext)) (rNext)) (rSeq (rRet (rAndV (rCall sp_is_between 3 (rCons (rBin oIx2 (rVar 3) (rCst (.int 0))) (rCons (rCst (.int 0)) (rCons (rBin oSub (rVar 1) (rCst (.int 1))) (rNil))))) (rAndV (rCall sp_is_between 3 (rCons (rBin oIx2 (rVar 3) (rCst (.int 2))) (rCons (rCst (.int 0)) (rCons (rBin oSub (rVar 1) (rCst (.int 1))) (rNil))))) (rCall sp_is_deed 3 (rCons (rVar 0) (rCons (rVar 2) (rCons (rBin oIx2 (rVar 3) (rCst (.int 1))) (rNil)))))))) (rNext))
theorem w_is_step {P : Program} {w : World} {K : PySem.W.Frag} {T : List Addr} {mg : Str → Option Value} {base : Heap} {k : Nat} {A : Around} {outer : List Env} {s : Shared} {H : Hp} {E : XK} {ex : EK} {c Pt fA : Addr} {sp_is_between sp_is_deed : DSp}
    (hr : RoomG (k + 0) (A.deeper (envOfC "is_step" (defScope s_is_step) s.heap.objs.size fA (.ref c)))) (G : Gm mg) (C_is_between : Cal ⟨P, w, K, T⟩ mg base k "is_between" ["value", "low", "high"] sp_is_between) (C_is_deed : Cal ⟨P, w, K, T⟩ mg base k "is_deed" ["k", "roads", "told"] sp_is_deed) :
    SsP' (bx P w K mg base ["k", "rooms", "roads", "told"] "is_step" (defScope s_is_step) fA (.ref c) A outer s H E) T ex (defBody s_is_step) (r_is_step sp_is_between sp_is_deed) := by
  unfold r_is_step
  exact ds_cons (ds_if (PW.pt (dt_or (dt_not (de_tru (de_callB cl_isi2 rfl G.n_isinstance rfl (da_cons (de_var (i := 3) rfl (.inl rfl) rfl rfl) (da_cons (de_ty rfl G.n_tuple rfl (by decide) rfl) (da_nil) rfl) rfl) (by decide) rfl rfl rfl) (fun _ => rfl))) (dt_or1 (de_cmpT (opd_ne (hr).u) (de_callB cl_len2 rfl G.n_len rfl (da_cons (de_var (i := 3) rfl (.inl rfl) rfl rfl) (da_nil) rfl) (by decide) rfl rfl rfl) (de_int) rfl)))) (ds_cons (ds_ret (de_bl)) (ds_nil)) (ds_nil)) (ds_cons (ds_ret (de_and (de_cal (ps := ["value", "low", "high"]) C_is_between hr rfl (da_cons (de_ix2 (hr).u (de_var (i := 3) rfl (.inl rfl) rfl rfl) (de_int) (fun _ _ => rfl)) (da_cons (de_int) (da_cons (de_bin opd_sub (de_var (i := 1) rfl (.inl rfl) rfl rfl) (de_int)) (da_nil) rfl) rfl) rfl) rfl rfl rfl) (de_and (de_cal (ps := ["value", "low", "high"]) C_is_between hr rfl (da_cons (de_ix2 (hr).u (de_var (i := 3) rfl (.inl rfl) rfl rfl) (de_int) (fun _ _ => rfl)) (da_cons (de_int) (da_cons (de_bin opd_sub (de_var (i := 1) rfl (.inl rfl) rfl rfl) (de_int)) (da_nil) rfl) rfl) rfl) rfl rfl rfl) (de_one (de_cal (ps := ["k", "roads", "told"]) C_is_deed hr rfl (da_cons (de_var (i := 0) rfl (.inl rfl) rfl rfl) (da_cons (de_var (i := 2) rfl (.inl rfl) rfl rfl) (da_cons (de_ix2 (hr).u (de_var (i := 3) rfl (.inl rfl) rfl rfl) (de_int) (fun _ _ => rfl)) (da_nil) rfl) rfl) rfl) rfl rfl rfl))))) (ds_nil))
theorem sc_is_system : FnScope ["value", "steps", "k", "roads", "rooms"] ["value"] (defScope s_is_system) := ⟨rfl, rfl, rfl, by decide +kernel, rfl, by decide +kernel, by decide +kernel⟩
def r_is_system (sp_is_k sp_is_integer sp_is_between sp_is_step sp_is_ascending : DSp) : DS := rSeq (rIfS (rOr (rNot (rTru (rArg bIsi2 (rCons (rVar 0) (rCons (rCst (.ty "tuple")) (rNil)))))) (rTB (rBin (oEq true) (rArg bLen2 (rCons (rVar 0) (rNil))) (rCst (.int 4))))) (rSeq (rRet (rCst (.bl false))) (rNext)) (rNext)) (rSeq (rAsg (rVar 0) (rgTup 4 (rgCons (rgName 2) (rgCons (rgName 4) (rgCons (rgName 3) (rgCons (rgName 1) (rgNil))))))) (rSeq (rIfS (rOr (rNot (rTru (rCall sp_is_k 1 (rCons (rVar 2) (rNil))))) (rOr (rNot (rTru (rCall sp_is_integer 1 (rCons (rVar 4) (rNil))))) (rOr (rTB (rBin oLt2 (rVar 4) (rCst (.int 1)))) (rNot (rTru (rCall sp_is_between 3 (rCons (rVar 3) (rCons (rCst (.int 1)) (rCons (rCst (.int 2)) (rNil)))))))))) (rSeq (rRet (rCst (.bl false))) (rNext)) (rNext)) (rSeq (rIfS (rOr (rNot (rTru (rArg bIsi2 (rCons (rVar 1) (rCons (rCst (.ty "tuple")) (rNil)))))) (rNot (rTru (rAG false 1 [2, 3, 4] (rItV (rVar 1)) (rgName 0) (rCall sp_is_step 4 (rCons (rVar 1) (rCons (rVar 3) (rCons (rVar 2) (rCons (rVar 0) (rNil)))))))))) (rSeq (rRet (rCst (.bl false))) (rNext)) (rNext)) (rSeq (rRet (rCall sp_is_ascending 1 (rCons (rVar 1) (rNil)))) (rNext)))))
theorem w_is_system {P : Program} {w : World} {K : PySem.W.Frag} {T : List Addr} {mg : Str → Option Value} {base : Heap} {k : Nat} {A : Around} {outer : List Env} {s : Shared} {H : Hp} {E : XK} {ex : EK} {c Pt fA : Addr} {sp_is_k sp_is_integer sp_is_between sp_is_step sp_is_ascending : DSp}
    (hr : RoomG (k + 1) (A.deeper (envOfC "is_system" (defScope s_is_system) s.heap.objs.size fA (.ref c)))) (G : Gm mg) (C_is_k : Cal ⟨P, w, K, T⟩ mg base k "is_k" ["value"] sp_is_k) (C_is_integer : Cal ⟨P, w, K, T⟩ mg base k "is_integer" ["value"] sp_is_integer) (C_is_between : Cal ⟨P, w, K, T⟩ mg base k "is_between" ["value", "low", "high"] sp_is_between) (C_is_step : Cal ⟨P, w, K, T⟩ mg base k "is_step" ["k", "rooms", "roads", "told"] sp_is_step) (C_is_ascending : Cal ⟨P, w, K, T⟩ mg base k "is_ascending" ["some"] sp_is_ascending) (TB : GxR.TabB base mg c Pt) (hP : Pt ∈ T) :
    SsP' (bx P w K mg base ["value", "steps", "k", "roads", "rooms"] "is_system" (defScope s_is_system) fA (.ref c) A outer s H E) T ex (defBody s_is_system) (r_is_system sp_is_k sp_is_integer sp_is_between sp_is_step sp_is_ascending) := by
  unfold r_is_system
  exact ds_cons (ds_if (PW.pt (dt_or (dt_not (de_tru (de_callB cl_isi2 rfl G.n_isinstance rfl (da_cons (de_var (i := 0) rfl (.inl rfl) rfl rfl) (da_cons (de_ty rfl G.n_tuple rfl (by decide) rfl) (da_nil) rfl) rfl) (by decide) rfl rfl rfl) (fun _ => rfl))) (dt_or1 (de_cmpT (opd_ne (hr).u) (de_callB cl_len2 rfl G.n_len rfl (da_cons (de_var (i := 0) rfl (.inl rfl) rfl rfl) (da_nil) rfl) (by decide) rfl rfl rfl) (de_int) rfl)))) (ds_cons (ds_ret (de_bl)) (ds_nil)) (ds_nil)) (ds_cons (ds_asg (de_var (i := 0) rfl (.inl rfl) rfl rfl) (dg_tup rfl (dgs_cons (dg_name (i := 2) (nd rfl) rfl (.inr rfl) (.inl rfl)) (dgs_cons (dg_name (i := 4) (nd rfl) rfl (.inr rfl) (.inl rfl)) (dgs_cons (dg_name (i := 3) (nd rfl) rfl (.inr rfl) (.inl rfl)) (dgs_cons (dg_name (i := 1) (nd rfl) rfl (.inl rfl) (.inl rfl)) (dgs_nil) rfl) rfl) rfl) rfl) rfl rfl) rfl rfl rfl) (ds_cons (ds_if (PW.pt (dt_or (dt_not (de_tru (de_cal (ps := ["value"]) C_is_k (hr).low rfl (da_cons (de_var (i := 2) rfl (.inr (.inl rfl)) rfl rfl) (da_nil) rfl) rfl rfl rfl) (fun _ => rfl))) (dt_or (dt_not (de_tru (de_cal (ps := ["value"]) C_is_integer (hr).low rfl (da_cons (de_var (i := 4) rfl (.inr (.inl rfl)) rfl rfl) (da_nil) rfl) rfl rfl rfl) (fun _ => rfl))) (dt_or (de_cmpT (opd_lt2 (hr).u) (de_var (i := 4) rfl (.inr (.inl rfl)) rfl rfl) (de_int) rfl) (dt_or1 (dt_not (de_tru (de_cal (ps := ["value", "low", "high"]) C_is_between (hr).low rfl (da_cons (de_var (i := 3) rfl (.inr (.inl rfl)) rfl rfl) (da_cons (de_int) (da_cons (de_gint rfl G.c_MOST_ROADS rfl) (da_nil) rfl) rfl) rfl) rfl rfl rfl) (fun _ => rfl)))))))) (ds_cons (ds_ret (de_bl)) (ds_nil)) (ds_nil)) (ds_cons (ds_if (PW.pt (dt_or (dt_not (de_tru (de_callB cl_isi2 rfl G.n_isinstance rfl (da_cons (de_var (i := 1) rfl (.inl rfl) rfl rfl) (da_cons (de_ty rfl G.n_tuple rfl (by decide) rfl) (da_nil) rfl) rfl) (by decide) rfl rfl rfl) (fun _ => rfl))) (dt_or1 (dt_not (de_tru (de_gx (stop := false) (own := ["step"]) (capn := ["k", "roads", "rooms"]) (caps := [2, 3, 4]) rfl hr rfl rfl G.n_all TB hP rfl (gxOk_by rfl) (di_val (de_var (i := 1) rfl (.inl rfl) rfl rfl)) (fun _ => rfl) (by decide) (fun s H C cl code bi A fp pn => dg_name (i := 0) (nd rfl) rfl (.inl rfl) (.inr rfl)) (fun s H C cl code bi A fp pn hr' => de_cal (ps := ["k", "rooms", "roads", "told"]) C_is_step hr' rfl (da_cons (de_var (i := 1) rfl (.inr (.inr rfl)) rfl rfl) (da_cons (de_var (i := 3) rfl (.inr (.inr rfl)) rfl rfl) (da_cons (de_var (i := 2) rfl (.inr (.inr rfl)) rfl rfl) (da_cons (de_var (i := 0) rfl (.inl rfl) rfl rfl) (da_nil) rfl) rfl) rfl) rfl) rfl rfl rfl) rfl) (fun _ => rfl)))))) (ds_cons (ds_ret (de_bl)) (ds_nil)) (ds_nil)) (ds_cons (ds_ret (de_cal (ps := ["some"]) C_is_ascending (hr).low rfl (da_cons (de_var (i := 1) rfl (.inl rfl) rfl rfl) (da_nil) rfl) rfl rfl rfl)) (ds_nil)))))
theorem sc_check_system : FnScope ["system"] ["system"] (defScope s_check_system) := ⟨rfl, rfl, rfl, by decide +kernel, rfl, by decide +kernel, by decide +kernel⟩
def r_check_system (sp_is_system : DSp) : DS := rSeq (rIfS (rNot (rTru (rCall sp_is_system 1 (rCons (rVar 0) (rNil))))) (rSeq (rNever) (rNext)) (rNext)) (rNext)
theorem w_check_system {P : Program} {w : World} {K : PySem.W.Frag} {T : List Addr} {mg : Str → Option Value} {base : Heap} {k : Nat} {A : Around} {outer : List Env} {s : Shared} {H : Hp} {E : XK} {ex : EK} {c Pt fA : Addr} {sp_is_system : DSp}
    (hr : RoomG (k + 0) (A.deeper (envOfC "check_system" (defScope s_check_system) s.heap.objs.size fA (.ref c)))) (G : Gm mg) (C_is_system : Cal ⟨P, w, K, T⟩ mg base k "is_system" ["value"] sp_is_system) :
    SsP' (bx P w K mg base ["system"] "check_system" (defScope s_check_system) fA (.ref c) A outer s H E) T ex (defBody s_check_system) (r_check_system sp_is_system) := by
  unfold r_check_system
  exact ds_cons (ds_if (dt_not (de_tru (de_cal (ps := ["value"]) C_is_system hr rfl (da_cons (de_var (i := 0) rfl (.inl rfl) rfl rfl) (da_nil) rfl) rfl rfl rfl) (fun _ => rfl))) (ds_cons (ds_never) (ds_nil)) (ds_nil)) (ds_nil)
theorem sc_are_words : FnScope ["system", "told"] ["system", "told"] (defScope s_are_words) := ⟨rfl, rfl, rfl, by decide +kernel, rfl, by decide +kernel, by decide +kernel⟩
def r_are_words (sp_is_letters : DSp) : DS := rSeq (rIfS (rOr (rNot (rTru (rArg bIsi2 (rCons (rVar 1) (rCons (rCst (.ty "tuple")) (rNil)))))) (rTB (rBin (oEq true) (rArg bLen2 (rCons (rVar 1) (rNil))) (rBin oIx2 (rVar 0) (rCst (.int 2)))))) (rSeq (rRet (rCst (.bl false))) (rNext)) (rNext)) (rSeq (rRet (rAG false 1 [0] (rItV (rVar 1)) (rgName 0) (rCall sp_is_letters 2 (rCons (rBin oIx2 (rVar 1) (rCst (.int 0))) (rCons (rVar 0) (rNil)))))) (rNext))
theorem w_are_words {P : Program} {w : World} {K : PySem.W.Frag} {T : List Addr} {mg : Str → Option Value} {base : Heap} {k : Nat} {A : Around} {outer : List Env} {s : Shared} {H : Hp} {E : XK} {ex : EK} {c Pt fA : Addr} {sp_is_letters : DSp}
    (hr : RoomG (k + 1) (A.deeper (envOfC "are_words" (defScope s_are_words) s.heap.objs.size fA (.ref c)))) (G : Gm mg) (C_is_letters : Cal ⟨P, w, K, T⟩ mg base k "is_letters" ["k", "value"] sp_is_letters) (TB : GxR.TabB base mg c Pt) (hP : Pt ∈ T) :
    SsP' (bx P w K mg base ["system", "told"] "are_words" (defScope s_are_words) fA (.ref c) A outer s H E) T ex (defBody s_are_words) (r_are_words sp_is_letters) := by
  unfold r_are_words
  exact ds_cons (ds_if (PW.pt (dt_or (dt_not (de_tru (de_callB cl_isi2 rfl G.n_isinstance rfl (da_cons (de_var (i := 1) rfl (.inl rfl) rfl rfl) (da_cons (de_ty rfl G.n_tuple rfl (by decide) rfl) (da_nil) rfl) rfl) (by decide) rfl rfl rfl) (fun _ => rfl))) (dt_or1 (de_cmpT (opd_ne (hr).u) (de_callB cl_len2 rfl G.n_len rfl (da_cons (de_var (i := 1) rfl (.inl rfl) rfl rfl) (da_nil) rfl) (by decide) rfl rfl rfl) (de_ix2 (hr).u (de_var (i := 0) rfl (.inr (.inl rfl)) rfl rfl) (de_int) (fun _ _ => rfl)) rfl)))) (ds_cons (ds_ret (de_bl)) (ds_nil)) (ds_nil)) (ds_cons (ds_ret (de_gx (stop := false) (own := ["word"]) (capn := ["system"]) (caps := [0]) rfl hr rfl rfl G.n_all TB hP rfl (gxOk_by rfl) (di_val (de_var (i := 1) rfl (.inl rfl) rfl rfl)) (fun _ => rfl) (by decide) (fun s H C cl code bi A fp pn => dg_name (i := 0) (nd rfl) rfl (.inl rfl) (.inr rfl)) (fun s H C cl code bi A fp pn hr' => de_cal (ps := ["k", "value"]) C_is_letters hr' rfl (da_cons (de_ix2 (hr').u (de_var (i := 1) rfl (.inr (.inr rfl)) rfl rfl) (de_int) (fun _ _ => rfl)) (da_cons (de_var (i := 0) rfl (.inl rfl) rfl rfl) (da_nil) rfl) rfl) rfl rfl rfl) rfl)) (ds_nil))
theorem sc_is_stand_in : FnScope ["system", "value"] ["system", "value"] (defScope s_is_stand_in) := ⟨rfl, rfl, rfl, by decide +kernel, rfl, by decide +kernel, by decide +kernel⟩
def r_is_stand_in (sp_is_between sp_are_words : DSp) : DS := rSeq (rIfS (rOr (rNot (rTru (rArg bIsi2 (rCons (rVar 1) (rCons (rCst (.ty "tuple")) (rNil)))))) (rTB (rBin (oEq true) (rArg bLen2 (rCons (rVar 1) (rNil))) (rCst (.int 2))))) (rSeq (rRet (rCst (.bl false))) (rNext)) (rNext)) (rSeq (rRet (rAndV (rCall sp_is_between 3 (rCons (rBin oIx2 (rVar 1) (rCst (.int 0))) (rCons (rCst (.int 0)) (rCons (rBin oSub (rBin oIx2 (rVar 0) (rCst (.int 1))) (rCst (.int 1))) (rNil))))) (rCall sp_are_words 2 (rCons (rVar 0) (rCons (rBin oIx2 (rVar 1) (rCst (.int 1))) (rNil)))))) (rNext))
theorem w_is_stand_in {P : Program} {w : World} {K : PySem.W.Frag} {T : List Addr} {mg : Str → Option Value} {base : Heap} {k : Nat} {A : Around} {outer : List Env} {s : Shared} {H : Hp} {E : XK} {ex : EK} {c Pt fA : Addr} {sp_is_between sp_are_words : DSp}
    (hr : RoomG (k + 0) (A.deeper (envOfC "is_stand_in" (defScope s_is_stand_in) s.heap.objs.size fA (.ref c)))) (G : Gm mg) (C_is_between : Cal ⟨P, w, K, T⟩ mg base k "is_between" ["value", "low", "high"] sp_is_between) (C_are_words : Cal ⟨P, w, K, T⟩ mg base k "are_words" ["system", "told"] sp_are_words) :
    SsP' (bx P w K mg base ["system", "value"] "is_stand_in" (defScope s_is_stand_in) fA (.ref c) A outer s H E) T ex (defBody s_is_stand_in) (r_is_stand_in sp_is_between sp_are_words) := by
  unfold r_is_stand_in
  exact ds_cons (ds_if (PW.pt (dt_or (dt_not (de_tru (de_callB cl_isi2 rfl G.n_isinstance rfl (da_cons (de_var (i := 1) rfl (.inl rfl) rfl rfl) (da_cons (de_ty rfl G.n_tuple rfl (by decide) rfl) (da_nil) rfl) rfl) (by decide) rfl rfl rfl) (fun _ => rfl))) (dt_or1 (de_cmpT (opd_ne (hr).u) (de_callB cl_len2 rfl G.n_len rfl (da_cons (de_var (i := 1) rfl (.inl rfl) rfl rfl) (da_nil) rfl) (by decide) rfl rfl rfl) (de_int) rfl)))) (ds_cons (ds_ret (de_bl)) (ds_nil)) (ds_nil)) (ds_cons (ds_ret (de_and (de_cal (ps := ["value", "low", "high"]) C_is_between hr rfl (da_cons (de_ix2 (hr).u (de_var (i := 1) rfl (.inl rfl) rfl rfl) (de_int) (fun _ _ => rfl)) (da_cons (de_int) (da_cons (de_bin opd_sub (de_ix2 (hr).u (de_var (i := 0) rfl (.inl rfl) rfl rfl) (de_int) (fun _ _ => rfl)) (de_int)) (da_nil) rfl) rfl) rfl) rfl rfl rfl) (de_one (de_cal (ps := ["system", "told"]) C_are_words hr rfl (da_cons (de_var (i := 0) rfl (.inl rfl) rfl rfl) (da_cons (de_ix2 (hr).u (de_var (i := 1) rfl (.inl rfl) rfl rfl) (de_int) (fun _ _ => rfl)) (da_nil) rfl) rfl) rfl rfl rfl)))) (ds_nil))
theorem sc_check_stand : FnScope ["system", "stand"] ["system", "stand"] (defScope s_check_stand) := ⟨rfl, rfl, rfl, by decide +kernel, rfl, by decide +kernel, by decide +kernel⟩
def r_check_stand (sp_is_stand_in : DSp) : DS := rSeq (rIfS (rNot (rTru (rCall sp_is_stand_in 2 (rCons (rVar 0) (rCons (rVar 1) (rNil)))))) (rSeq (rNever) (rNext)) (rNext)) (rNext)
theorem w_check_stand {P : Program} {w : World} {K : PySem.W.Frag} {T : List Addr} {mg : Str → Option Value} {base : Heap} {k : Nat} {A : Around} {outer : List Env} {s : Shared} {H : Hp} {E : XK} {ex : EK} {c Pt fA : Addr} {sp_is_stand_in : DSp}
    (hr : RoomG (k + 0) (A.deeper (envOfC "check_stand" (defScope s_check_stand) s.heap.objs.size fA (.ref c)))) (G : Gm mg) (C_is_stand_in : Cal ⟨P, w, K, T⟩ mg base k "is_stand_in" ["system", "value"] sp_is_stand_in) :
    SsP' (bx P w K mg base ["system", "stand"] "check_stand" (defScope s_check_stand) fA (.ref c) A outer s H E) T ex (defBody s_check_stand) (r_check_stand sp_is_stand_in) := by
  unfold r_check_stand
  exact ds_cons (ds_if (dt_not (de_tru (de_cal (ps := ["system", "value"]) C_is_stand_in hr rfl (da_cons (de_var (i := 0) rfl (.inl rfl) rfl rfl) (da_cons (de_var (i := 1) rfl (.inl rfl) rfl rfl) (da_nil) rfl) rfl) rfl rfl rfl) (fun _ => rfl))) (ds_cons (ds_never) (ds_nil)) (ds_nil)) (ds_nil)
theorem sc_are_strewn : FnScope ["words", "others"] ["words", "others"] (defScope s_are_strewn) := ⟨rfl, rfl, rfl, by decide +kernel, rfl, by decide +kernel, by decide +kernel⟩
def r_are_strewn (sp_strewn_in : DSp) : DS := rSeq (rRet (rAG false 2 [] (rItZ (rCons (rVar 0) (rCons (rVar 1) (rNil)))) (rgTup 2 (rgCons (rgName 0) (rgCons (rgName 1) (rgNil)))) (rCall sp_strewn_in 2 (rCons (rVar 0) (rCons (rVar 1) (rNil)))))) (rNext)
theorem w_are_strewn {P : Program} {w : World} {K : PySem.W.Frag} {T : List Addr} {mg : Str → Option Value} {base : Heap} {k : Nat} {A : Around} {outer : List Env} {s : Shared} {H : Hp} {E : XK} {ex : EK} {c Pt fA : Addr} {sp_strewn_in : DSp}
    (hr : RoomG (k + 1) (A.deeper (envOfC "are_strewn" (defScope s_are_strewn) s.heap.objs.size fA (.ref c)))) (G : Gm mg) (C_strewn_in : Cal ⟨P, w, K, T⟩ mg base k "strewn_in" ["one", "other"] sp_strewn_in) (TB : GxR.TabB base mg c Pt) (hP : Pt ∈ T) :
    SsP' (bx P w K mg base ["words", "others"] "are_strewn" (defScope s_are_strewn) fA (.ref c) A outer s H E) T ex (defBody s_are_strewn) (r_are_strewn sp_strewn_in) := by
  unfold r_are_strewn
  exact ds_cons (ds_ret (de_gx (stop := false) (own := ["word", "other"]) (capn := []) (caps := []) rfl hr rfl rfl G.n_all TB hP rfl (gxOk_by rfl) (di_zip rfl G.n_zip (da_cons (de_var (i := 0) rfl (.inl rfl) rfl rfl) (da_cons (de_var (i := 1) rfl (.inl rfl) rfl rfl) (da_nil) rfl) rfl) rfl rfl) (fun _ => rfl) (by decide) (fun s H C cl code bi A fp pn => dg_tup rfl (dgs_cons (dg_name (i := 0) (nd rfl) rfl (.inl rfl) (.inr rfl)) (dgs_cons (dg_name (i := 1) (nd rfl) rfl (.inl rfl) (.inr rfl)) (dgs_nil) rfl) rfl) rfl rfl) (fun s H C cl code bi A fp pn hr' => de_cal (ps := ["one", "other"]) C_strewn_in hr' rfl (da_cons (de_var (i := 0) rfl (.inl rfl) rfl rfl) (da_cons (de_var (i := 1) rfl (.inl rfl) rfl rfl) (da_nil) rfl) rfl) rfl rfl rfl) rfl)) (ds_nil)
theorem sc_with_word : FnScope ["words", "road", "word"] ["words", "road", "word"] (defScope s_with_word) := ⟨rfl, rfl, rfl, by decide +kernel, rfl, by decide +kernel, by decide +kernel⟩
def r_with_word : DS := rSeq (rRet (rBin oAdd (rBin oAdd (rCut (rVar 0) (rNoP) (rPart (rVar 1))) (rTup (rCons (rVar 2) (rNil)))) (rCut (rVar 0) (rPart (rBin oAdd (rVar 1) (rCst (.int 1)))) (rNoP)))) (rNext)
theorem w_with_word {P : Program} {w : World} {K : PySem.W.Frag} {T : List Addr} {mg : Str → Option Value} {base : Heap} {k : Nat} {A : Around} {outer : List Env} {s : Shared} {H : Hp} {E : XK} {ex : EK} {c Pt fA : Addr}
    (hr : RoomG (k + 0) (A.deeper (envOfC "with_word" (defScope s_with_word) s.heap.objs.size fA (.ref c)))) (G : Gm mg) :
    SsP' (bx P w K mg base ["words", "road", "word"] "with_word" (defScope s_with_word) fA (.ref c) A outer s H E) T ex (defBody s_with_word) (r_with_word) := by
  unfold r_with_word
  exact ds_cons (ds_ret (de_bin opd_add (de_bin opd_add (de_cut (de_var (i := 0) rfl (.inl rfl) rfl rfl) (do_none) (do_some (de_var (i := 1) rfl (.inl rfl) rfl rfl))) (de_tup (da_cons (de_var (i := 2) rfl (.inl rfl) rfl rfl) (da_nil) rfl))) (de_cut (de_var (i := 0) rfl (.inl rfl) rfl rfl) (do_some (de_bin opd_add (de_var (i := 1) rfl (.inl rfl) rfl rfl) (de_int))) (do_none)))) (ds_nil)
theorem sc_words_ahead : FnScope ["deed", "words", "road", "letter", "own"] ["deed", "words"] (defScope s_words_ahead) := ⟨rfl, rfl, rfl, by decide +kernel, rfl, by decide +kernel, by decide +kernel⟩
def r_words_ahead (sp_with_word : DSp) : DS := rSeq (rIfS (rTB (rBin (oEq false) (rArg bLen2 (rCons (rVar 0) (rNil))) (rCst (.int 1)))) (rSeq (rRet (rVar 1)) (rNext)) (rNext)) (rSeq (rAsg (rCut (rVar 0) (rPart (rCst (.int 1))) (rNoP)) (rgTup 2 (rgCons (rgName 2) (rgCons (rgName 3) (rgNil))))) (rSeq (rAsg (rBin oIx2 (rVar 1) (rVar 2)) (rgName 4)) (rSeq (rIfS (rTB (rBin (oEq false) (rBin oIx2 (rVar 0) (rCst (.int 0))) (rCst (.int 1)))) (rSeq (rRet (rIf (rTB (rBin (oEq false) (rCut (rVar 4) (rPart (rUn oNeg (rCst (.int 1)))) (rNoP)) (rTup (rCons (rVar 3) (rNil))))) (rCall sp_with_word 3 (rCons (rVar 1) (rCons (rVar 2) (rCons (rCut (rVar 4) (rNoP) (rPart (rUn oNeg (rCst (.int 1))))) (rNil))))) (rVar 1))) (rNext)) (rNext)) (rSeq (rRet (rCall sp_with_word 3 (rCons (rVar 1) (rCons (rVar 2) (rCons (rBin oAdd (rTup (rCons (rVar 3) (rNil))) (rVar 4)) (rNil)))))) (rNext)))))
theorem w_words_ahead {P : Program} {w : World} {K : PySem.W.Frag} {T : List Addr} {mg : Str → Option Value} {base : Heap} {k : Nat} {A : Around} {outer : List Env} {s : Shared} {H : Hp} {E : XK} {ex : EK} {c Pt fA : Addr} {sp_with_word : DSp}
    (hr : RoomG (k + 0) (A.deeper (envOfC "words_ahead" (defScope s_words_ahead) s.heap.objs.size fA (.ref c)))) (G : Gm mg) (C_with_word : Cal ⟨P, w, K, T⟩ mg base k "with_word" ["words", "road", "word"] sp_with_word) :
    SsP' (bx P w K mg base ["deed", "words", "road", "letter", "own"] "words_ahead" (defScope s_words_ahead) fA (.ref c) A outer s H E) T ex (defBody s_words_ahead) (r_words_ahead sp_with_word) := by
  unfold r_words_ahead
  exact ds_cons (ds_if (de_cmpT (opd_eq (hr).u) (de_callB cl_len2 rfl G.n_len rfl (da_cons (de_var (i := 0) rfl (.inl rfl) rfl rfl) (da_nil) rfl) (by decide) rfl rfl rfl) (de_int) rfl) (ds_cons (ds_ret (de_var (i := 1) rfl (.inl rfl) rfl rfl)) (ds_nil)) (ds_nil)) (ds_cons (ds_asg (de_cut (de_var (i := 0) rfl (.inl rfl) rfl rfl) (do_some (de_int)) (do_none)) (dg_tup rfl (dgs_cons (dg_name (i := 2) (nd rfl) rfl (.inl rfl) (.inl rfl)) (dgs_cons (dg_name (i := 3) (nd rfl) rfl (.inl rfl) (.inl rfl)) (dgs_nil) rfl) rfl) rfl rfl) rfl rfl rfl) (ds_cons (ds_set (i := 4) (nd rfl) rfl (.inl rfl) (de_ix2 (hr).u (de_var (i := 1) rfl (.inl rfl) rfl rfl) (de_var (i := 2) rfl (.inl rfl) rfl rfl) (fun _ _ => rfl)) rfl (.inl rfl)) (ds_cons (ds_if (de_cmpT (opd_eq (hr).u) (de_ix2 (hr).u (de_var (i := 0) rfl (.inl rfl) rfl rfl) (de_int) (fun _ _ => rfl)) (de_gint rfl G.c_SEND rfl) rfl) (ds_cons (ds_ret (de_if (de_cmpT (opd_eq (hr).u) (de_cut (de_var (i := 4) rfl (.inl rfl) rfl rfl) (do_some (de_un opd_neg (de_int))) (do_none)) (de_tup (da_cons (de_var (i := 3) rfl (.inl rfl) rfl rfl) (da_nil) rfl)) rfl) (de_cal (ps := ["words", "road", "word"]) C_with_word hr rfl (da_cons (de_var (i := 1) rfl (.inl rfl) rfl rfl) (da_cons (de_var (i := 2) rfl (.inl rfl) rfl rfl) (da_cons (de_cut (de_var (i := 4) rfl (.inl rfl) rfl rfl) (do_none) (do_some (de_un opd_neg (de_int)))) (da_nil) rfl) rfl) rfl) rfl rfl rfl) (de_var (i := 1) rfl (.inl rfl) rfl rfl))) (ds_nil)) (ds_nil)) (ds_cons (ds_ret (de_cal (ps := ["words", "road", "word"]) C_with_word hr rfl (da_cons (de_var (i := 1) rfl (.inl rfl) rfl rfl) (da_cons (de_var (i := 2) rfl (.inl rfl) rfl rfl) (da_cons (de_bin opd_add (de_tup (da_cons (de_var (i := 3) rfl (.inl rfl) rfl rfl) (da_nil) rfl)) (de_var (i := 4) rfl (.inl rfl) rfl rfl)) (da_nil) rfl) rfl) rfl) rfl rfl rfl)) (ds_nil)))))
theorem sc_leads_in : FnScope ["system", "one", "other", "room", "deed", "there"] ["system", "one", "other"] (defScope s_leads_in) := ⟨rfl, rfl, rfl, by decide +kernel, rfl, by decide +kernel, by decide +kernel⟩
def r_leads_in (sp_are_strewn sp_words_ahead : DSp) : DS := rSeq (rFor (rItV (rBin oIx2 (rVar 0) (rCst (.int 3)))) (rgTup 3 (rgCons (rgName 3) (rgCons (rgName 4) (rgCons (rgName 5) (rgNil))))) (rSeq (rIfS (rAnd (rTB (rBin (oEq false) (rVar 3) (rBin oIx2 (rVar 1) (rCst (.int 0))))) (rAnd (rTB (rBin (oEq false) (rVar 5) (rBin oIx2 (rVar 2) (rCst (.int 0))))) (rTru (rCall sp_are_strewn 2 (rCons (rCall sp_words_ahead 2 (rCons (rVar 4) (rCons (rBin oIx2 (rVar 2) (rCst (.int 1))) (rNil)))) (rCons (rBin oIx2 (rVar 1) (rCst (.int 1))) (rNil))))))) (rSeq (rRet (rCst (.bl true))) (rNext)) (rNext)) (rNext))) (rSeq (rRet (rCst (.bl false))) (rNext))
theorem w_leads_in {P : Program} {w : World} {K : PySem.W.Frag} {T : List Addr} {mg : Str → Option Value} {base : Heap} {k : Nat} {A : Around} {outer : List Env} {s : Shared} {H : Hp} {E : XK} {ex : EK} {c Pt fA : Addr} {sp_are_strewn sp_words_ahead : DSp}
    (hr : RoomG (k + 0) (A.deeper (envOfC "leads_in" (defScope s_leads_in) s.heap.objs.size fA (.ref c)))) (G : Gm mg) (C_are_strewn : Cal ⟨P, w, K, T⟩ mg base k "are_strewn" ["words", "others"] sp_are_strewn) (C_words_ahead : Cal ⟨P, w, K, T⟩ mg base k "words_ahead" ["deed", "words"] sp_words_ahead) :
    SsP' (bx P w K mg base ["system", "one", "other", "room", "deed", "there"] "leads_in" (defScope s_leads_in) fA (.ref c) A outer s H E) T ex (defBody s_leads_in) (r_leads_in sp_are_strewn sp_words_ahead) := by
  unfold r_leads_in
  exact ds_cons (ds_for (never rfl) rfl (di_val (de_ix2 (hr).u (de_var (i := 0) rfl (.inl rfl) rfl rfl) (de_int) (fun _ _ => rfl))) (dg_tup rfl (dgs_cons (dg_name (i := 3) (nd rfl) rfl (.inl rfl) (.inl rfl)) (dgs_cons (dg_name (i := 4) (nd rfl) rfl (.inl rfl) (.inl rfl)) (dgs_cons (dg_name (i := 5) (nd rfl) rfl (.inl rfl) (.inl rfl)) (dgs_nil) rfl) rfl) rfl) rfl rfl) (ds_cons (ds_if (PW.pt (dt_and (de_cmpT (opd_eq (hr).u) (de_var (i := 3) rfl (.inl rfl) rfl rfl) (de_ix2 (hr).u (de_var (i := 1) rfl (.inl rfl) rfl rfl) (de_int) (fun _ _ => rfl)) rfl) (dt_and (de_cmpT (opd_eq (hr).u) (de_var (i := 5) rfl (.inl rfl) rfl rfl) (de_ix2 (hr).u (de_var (i := 2) rfl (.inl rfl) rfl rfl) (de_int) (fun _ _ => rfl)) rfl) (dt_and1 (de_tru (de_cal (ps := ["words", "others"]) C_are_strewn hr rfl (da_cons (de_cal (ps := ["deed", "words"]) C_words_ahead hr rfl (da_cons (de_var (i := 4) rfl (.inl rfl) rfl rfl) (da_cons (de_ix2 (hr).u (de_var (i := 2) rfl (.inl rfl) rfl rfl) (de_int) (fun _ _ => rfl)) (da_nil) rfl) rfl) rfl rfl rfl) (da_cons (de_ix2 (hr).u (de_var (i := 1) rfl (.inl rfl) rfl rfl) (de_int) (fun _ _ => rfl)) (da_nil) rfl) rfl) rfl rfl rfl) (fun _ => rfl)))))) (ds_cons (ds_ret (de_bl)) (ds_nil)) (ds_nil)) (ds_nil)) (fun _ => rfl)) (ds_cons (ds_ret (de_bl)) (ds_nil))
theorem sc_is_at : FnScope ["bars", "stand"] ["bars", "stand"] (defScope s_is_at) := ⟨rfl, rfl, rfl, by decide +kernel, rfl, by decide +kernel, by decide +kernel⟩
def r_is_at (sp_are_strewn : DSp) : DS := rSeq (rRet (rAG true 1 [1] (rItV (rBin oIx2 (rVar 0) (rBin oIx2 (rVar 1) (rCst (.int 0))))) (rgName 0) (rCall sp_are_strewn 2 (rCons (rVar 0) (rCons (rBin oIx2 (rVar 1) (rCst (.int 1))) (rNil)))))) (rNext)
theorem w_is_at {P : Program} {w : World} {K : PySem.W.Frag} {T : List Addr} {mg : Str → Option Value} {base : Heap} {k : Nat} {A : Around} {outer : List Env} {s : Shared} {H : Hp} {E : XK} {ex : EK} {c Pt fA : Addr} {sp_are_strewn : DSp}
    (hr : RoomG (k + 1) (A.deeper (envOfC "is_at" (defScope s_is_at) s.heap.objs.size fA (.ref c)))) (G : Gm mg) (C_are_strewn : Cal ⟨P, w, K, T⟩ mg base k "are_strewn" ["words", "others"] sp_are_strewn) (TB : GxR.TabB base mg c Pt) (hP : Pt ∈ T) :
    SsP' (bx P w K mg base ["bars", "stand"] "is_at" (defScope s_is_at) fA (.ref c) A outer s H E) T ex (defBody s_is_at) (r_is_at sp_are_strewn) := by
  unfold r_is_at
  exact ds_cons (ds_ret (de_gx (stop := true) (own := ["words"]) (capn := ["stand"]) (caps := [1]) rfl hr rfl rfl G.n_any TB hP rfl (gxOk_by rfl) (di_val (de_ix2 (hr).u (de_var (i := 0) rfl (.inl rfl) rfl rfl) (de_ix2 (hr).u (de_var (i := 1) rfl (.inr (.inl rfl)) rfl rfl) (de_int) (fun _ _ => rfl)) (fun _ _ => rfl))) (fun _ => rfl) (by decide) (fun s H C cl code bi A fp pn => dg_name (i := 0) (nd rfl) rfl (.inl rfl) (.inr rfl)) (fun s H C cl code bi A fp pn hr' => de_cal (ps := ["words", "others"]) C_are_strewn hr' rfl (da_cons (de_var (i := 0) rfl (.inl rfl) rfl rfl) (da_cons (de_ix2 (hr').u (de_var (i := 1) rfl (.inr (.inr rfl)) rfl rfl) (de_int) (fun _ _ => rfl)) (da_nil) rfl) rfl) rfl rfl rfl) rfl)) (ds_nil)
theorem sc_ways_to : FnScope ["system", "goal", "bars", "ways", "waiting", "stand", "room", "deed", "there", "words", "kept", "_", "own"] ["system", "goal"] (defScope s_ways_to) := ⟨rfl, rfl, rfl, by decide +kernel, rfl, by decide +kernel, by decide +kernel⟩
def r_ways_to (sp_words_ahead sp_is_at sp_are_strewn : DSp) : DS := rSeq (rPar [2, 3, 4] (rTup (rCons (rLc [11] (rItR1 (rCons (rBin oIx2 (rVar 0) (rCst (.int 1))) (rNil))) (rgName 11) (rYes) (rLst (rNil))) (rCons (rDct1 (rVar 1) (rCst .non)) (rCons (rLst (rCons (rVar 1) (rNil))) (rNil)))))) (rSeq (rAsg (rLst (rCons (rBin oIx2 (rVar 1) (rCst (.int 1))) (rNil))) (rgSub (rVar 2) (rBin oIx2 (rVar 1) (rCst (.int 0))) sSub)) (rSeq (rWhile (rTB (rBin oGt (rArg bLen2 (rCons (rVar 4) (rNil))) (rCst (.int 0)))) (rSeq (rAsg (rMt mPopAt "list" (rVar 4) (rCons (rCst (.int 0)) (rNil))) (rgName 5)) (rSeq (rFor (rItV (rBin oIx2 (rVar 0) (rCst (.int 3)))) (rgTup 3 (rgCons (rgName 6) (rgCons (rgName 7) (rgCons (rgName 8) (rgNil))))) (rSeq (rAsg (rCall sp_words_ahead 2 (rCons (rVar 7) (rCons (rBin oIx2 (rVar 5) (rCst (.int 1))) (rNil)))) (rgName 9)) (rSeq (rIfS (rAnd (rTB (rBin (oEq false) (rVar 8) (rBin oIx2 (rVar 5) (rCst (.int 0))))) (rNot (rTru (rCall sp_is_at 2 (rCons (rVar 2) (rCons (rTup (rCons (rVar 6) (rCons (rVar 9) (rNil)))) (rNil))))))) (rSeq (rAsg (rLc [12] (rItV (rBin oIx2 (rVar 2) (rVar 6))) (rgName 12) (rNot (rTru (rCall sp_are_strewn 2 (rCons (rVar 9) (rCons (rVar 12) (rNil)))))) (rVar 12)) (rgName 10)) (rSeq (rAsg (rBin oAdd (rVar 10) (rLst (rCons (rVar 9) (rNil)))) (rgSub (rVar 2) (rVar 6) sSub)) (rSeq (rAsg (rVar 5) (rgSub (rVar 3) (rTup (rCons (rVar 6) (rCons (rVar 9) (rNil)))) sSub)) (rSeq (rDrop (rMt mAppend "list" (rVar 4) (rCons (rTup (rCons (rVar 6) (rCons (rVar 9) (rNil)))) (rNil)))) (rNext))))) (rNext)) (rNext)))) (rNext)))) (rSeq (rRet (rTup (rCons (rArg bTuple (rCons (rLc [12] (rItV (rVar 2)) (rgName 12) (rYes) (rArg bTuple (rCons (rArg bSorted (rCons (rVar 12) (rNil))) (rNil)))) (rNil))) (rCons (rVar 3) (rNil))))) (rNext))))
theorem w_ways_to {P : Program} {w : World} {K : PySem.W.Frag} {T : List Addr} {mg : Str → Option Value} {base : Heap} {k : Nat} {A : Around} {outer : List Env} {s : Shared} {H : Hp} {E : XK} {ex : EK} {c Pt fA : Addr} {sp_words_ahead sp_is_at sp_are_strewn : DSp}
    (hr : RoomG (k + 0) (A.deeper (envOfC "ways_to" (defScope s_ways_to) s.heap.objs.size fA (.ref c)))) (G : Gm mg) (C_words_ahead : Cal ⟨P, w, K, T⟩ mg base k "words_ahead" ["deed", "words"] sp_words_ahead) (C_is_at : Cal ⟨P, w, K, T⟩ mg base k "is_at" ["bars", "stand"] sp_is_at) (C_are_strewn : Cal ⟨P, w, K, T⟩ mg base k "are_strewn" ["words", "others"] sp_are_strewn) :
    SsP' (bx P w K mg base ["system", "goal", "bars", "ways", "waiting", "stand", "room", "deed", "there", "words", "kept", "_", "own"] "ways_to" (defScope s_ways_to) fA (.ref c) A outer s H E) T ex (defBody s_ways_to) (r_ways_to sp_words_ahead sp_is_at sp_are_strewn) := by
  unfold r_ways_to
  exact ds_cons (ds_par3 (i := 2) (j := 3) (k := 4) rfl (nd rfl) rfl rfl rfl rfl rfl rfl (de_tup (da_cons (de_lc (own := [("_", 11)]) rfl (nd rfl) (di_range1 rfl G.n_range (da_cons (de_ix2 (hr).u (de_var (i := 0) rfl (.inl rfl) rfl rfl) (de_int) (fun _ _ => rfl)) (da_nil) rfl) rfl) (blkOk_by rfl) (by decide) (fun s H C cl fp => dg_name (i := 11) (nd rfl) rfl (.inl rfl) (.inr rfl)) (fun s H C cl fp => dts_nil) (fun s H C cl fp => de_lst (da_nil)) (fun _ => rfl)) (da_cons (de_dct1 (hr).u (de_var (i := 1) rfl (.inl rfl) rfl rfl) (de_non)) (da_cons (de_lst (da_cons (de_var (i := 1) rfl (.inl rfl) rfl rfl) (da_nil) rfl)) (da_nil) rfl) rfl) rfl)) rfl rfl) (ds_cons (ds_asg (de_lst (da_cons (de_ix2 (hr).u (de_var (i := 1) rfl (.inl rfl) rfl rfl) (de_int) (fun _ _ => rfl)) (da_nil) rfl)) (dg_sub (de_var (i := 2) rfl (.inl rfl) rfl rfl) (de_ix2 (hr).u (de_var (i := 1) rfl (.inl rfl) rfl rfl) (de_int) (fun _ _ => rfl)) (st_sub (hr).u) (fun _ => rfl)) rfl rfl rfl) (ds_cons (ds_while (never rfl) (de_cmpT opd_gt (de_callB cl_len2 rfl G.n_len rfl (da_cons (de_var (i := 4) rfl (.inl rfl) rfl rfl) (da_nil) rfl) (by decide) rfl rfl rfl) (de_int) rfl) (ds_cons (ds_set (i := 5) (nd rfl) rfl (.inl rfl) (de_mt PySem.F.plainAttrs_list PySem.F.slot_list_pop PySem.F.type_list_pop (.inl rfl) ml_popAt (de_var (i := 4) rfl (.inl rfl) rfl rfl) (da_cons (de_int) (da_nil) rfl) rfl rfl rfl rfl rfl) rfl (.inl rfl)) (ds_cons (ds_for (never rfl) rfl (di_val (de_ix2 (hr).u (de_var (i := 0) rfl (.inl rfl) rfl rfl) (de_int) (fun _ _ => rfl))) (dg_tup rfl (dgs_cons (dg_name (i := 6) (nd rfl) rfl (.inl rfl) (.inl rfl)) (dgs_cons (dg_name (i := 7) (nd rfl) rfl (.inl rfl) (.inl rfl)) (dgs_cons (dg_name (i := 8) (nd rfl) rfl (.inl rfl) (.inl rfl)) (dgs_nil) rfl) rfl) rfl) rfl rfl) (ds_cons (ds_set (i := 9) (nd rfl) rfl (.inr rfl) (de_cal (ps := ["deed", "words"]) C_words_ahead hr rfl (da_cons (de_var (i := 7) rfl (.inl rfl) rfl rfl) (da_cons (de_ix2 (hr).u (de_var (i := 5) rfl (.inl rfl) rfl rfl) (de_int) (fun _ _ => rfl)) (da_nil) rfl) rfl) rfl rfl rfl) rfl (.inl rfl)) (ds_cons (ds_if (PW.pt (dt_and (de_cmpT (opd_eq (hr).u) (de_var (i := 8) rfl (.inl rfl) rfl rfl) (de_ix2 (hr).u (de_var (i := 5) rfl (.inl rfl) rfl rfl) (de_int) (fun _ _ => rfl)) rfl) (dt_and1 (dt_not (de_tru (de_cal (ps := ["bars", "stand"]) C_is_at hr rfl (da_cons (de_var (i := 2) rfl (.inl rfl) rfl rfl) (da_cons (de_tup (da_cons (de_var (i := 6) rfl (.inl rfl) rfl rfl) (da_cons (de_var (i := 9) rfl (.inr (.inl rfl)) rfl rfl) (da_nil) rfl) rfl)) (da_nil) rfl) rfl) rfl rfl rfl) (fun _ => rfl)))))) (ds_cons (ds_setLc (i := 10) (own := [("own", 12)]) rfl (nd rfl) rfl rfl rfl (di_val (de_ix2 (hr).u (de_var (i := 2) rfl (.inl rfl) rfl rfl) (de_var (i := 6) rfl (.inl rfl) rfl rfl) (fun _ _ => rfl))) (blkOk_by rfl) (by decide) (fun s H C cl fp => dg_name (i := 12) (nd rfl) rfl (.inl rfl) (.inr rfl)) (fun s H C cl fp => dts_one (dt_not (de_tru (de_cal (ps := ["words", "others"]) C_are_strewn hr rfl (da_cons (de_var (i := 9) rfl (.inr (.inl rfl)) rfl rfl) (da_cons (de_var (i := 12) rfl (.inl rfl) rfl rfl) (da_nil) rfl) rfl) rfl rfl rfl) (fun _ => rfl)))) (fun s H C cl fp => de_var (i := 12) rfl (.inl rfl) rfl rfl) (fun _ => rfl)) (ds_cons (ds_asg (de_bin opd_add (de_var (i := 10) rfl (.inl rfl) rfl rfl) (de_lst (da_cons (de_var (i := 9) rfl (.inr (.inl rfl)) rfl rfl) (da_nil) rfl))) (dg_sub (de_var (i := 2) rfl (.inl rfl) rfl rfl) (de_var (i := 6) rfl (.inl rfl) rfl rfl) (st_sub (hr).u) (fun _ => rfl)) rfl rfl rfl) (ds_cons (ds_asg (de_var (i := 5) rfl (.inl rfl) rfl rfl) (dg_sub (de_var (i := 3) rfl (.inl rfl) rfl rfl) (de_tup (da_cons (de_var (i := 6) rfl (.inl rfl) rfl rfl) (da_cons (de_var (i := 9) rfl (.inr (.inl rfl)) rfl rfl) (da_nil) rfl) rfl)) (st_sub (hr).u) (fun _ => rfl)) rfl rfl rfl) (ds_cons (ds_drop (de_mt PySem.F.plainAttrs_list PySem.F.slot_list_append PySem.F.type_list_append (.inl rfl) ml_append (de_var (i := 4) rfl (.inl rfl) rfl rfl) (da_cons (de_tup (da_cons (de_var (i := 6) rfl (.inl rfl) rfl rfl) (da_cons (de_var (i := 9) rfl (.inr (.inl rfl)) rfl rfl) (da_nil) rfl) rfl)) (da_nil) rfl) rfl rfl rfl rfl rfl) rfl) (ds_nil))))) (ds_nil)) (ds_nil))) (fun _ => rfl)) (ds_nil)))) (ds_cons (ds_ret (de_tup (da_cons (de_callTy cl_tuple rfl G.n_tuple rfl (da_cons (de_lc (own := [("own", 12)]) rfl (nd rfl) (di_val (de_var (i := 2) rfl (.inl rfl) rfl rfl)) (blkOk_by rfl) (by decide) (fun s H C cl fp => dg_name (i := 12) (nd rfl) rfl (.inl rfl) (.inr rfl)) (fun s H C cl fp => dts_nil) (fun s H C cl fp => de_callTy cl_tuple rfl G.n_tuple rfl (da_cons (de_callB (cl_sorted (hr).u rfl) rfl G.n_sorted rfl (da_cons (de_var (i := 12) rfl (.inl rfl) rfl rfl) (da_nil) rfl) (by decide) rfl rfl rfl) (da_nil) rfl) (by decide) rfl rfl rfl) (fun _ => rfl)) (da_nil) rfl) (by decide) rfl rfl rfl) (da_cons (de_var (i := 3) rfl (.inl rfl) rfl rfl) (da_nil) rfl) rfl))) (ds_nil))))
theorem sc_run_from : FnScope ["start", "bars", "ways", "words", "found", "own"] ["start", "bars", "ways"] (defScope s_run_from) := ⟨rfl, rfl, rfl, by decide +kernel, rfl, by decide +kernel, by decide +kernel⟩
def r_run_from (sp_are_strewn : DSp) : DS := rSeq (rAsg (rBin oIx2 (rLc [5] (rItV (rBin oIx2 (rVar 1) (rBin oIx2 (rVar 0) (rCst (.int 0))))) (rgName 5) (rTru (rCall sp_are_strewn 2 (rCons (rVar 5) (rCons (rBin oIx2 (rVar 0) (rCst (.int 1))) (rNil))))) (rVar 5)) (rCst (.int 0))) (rgName 3)) (rSeq (rAsg (rLst (rCons (rTup (rCons (rBin oIx2 (rVar 0) (rCst (.int 0))) (rCons (rVar 3) (rNil)))) (rNil))) (rgName 4)) (rSeq (rWhile (rTB (rBin (oIs true) (rBin oIx2 (rVar 2) (rBin oIx2 (rVar 4) (rUn oNeg (rCst (.int 1))))) (rCst .non))) (rSeq (rDrop (rMt mAppend "list" (rVar 4) (rCons (rBin oIx2 (rVar 2) (rBin oIx2 (rVar 4) (rUn oNeg (rCst (.int 1))))) (rNil)))) (rNext))) (rSeq (rRet (rTup (rCons (rCst (.str "run")) (rCons (rArg bTuple (rCons (rVar 4) (rNil))) (rNil))))) (rNext))))
theorem w_run_from {P : Program} {w : World} {K : PySem.W.Frag} {T : List Addr} {mg : Str → Option Value} {base : Heap} {k : Nat} {A : Around} {outer : List Env} {s : Shared} {H : Hp} {E : XK} {ex : EK} {c Pt fA : Addr} {sp_are_strewn : DSp}
    (hr : RoomG (k + 0) (A.deeper (envOfC "run_from" (defScope s_run_from) s.heap.objs.size fA (.ref c)))) (G : Gm mg) (C_are_strewn : Cal ⟨P, w, K, T⟩ mg base k "are_strewn" ["words", "others"] sp_are_strewn) :
    SsP' (bx P w K mg base ["start", "bars", "ways", "words", "found", "own"] "run_from" (defScope s_run_from) fA (.ref c) A outer s H E) T ex (defBody s_run_from) (r_run_from sp_are_strewn) := by
  unfold r_run_from
  exact ds_cons (ds_set (i := 3) (nd rfl) rfl (.inl rfl) (de_ix2 (hr).u (de_lc (own := [("own", 5)]) rfl (nd rfl) (di_val (de_ix2 (hr).u (de_var (i := 1) rfl (.inl rfl) rfl rfl) (de_ix2 (hr).u (de_var (i := 0) rfl (.inr (.inl rfl)) rfl rfl) (de_int) (fun _ _ => rfl)) (fun _ _ => rfl))) (blkOk_by rfl) (by decide) (fun s H C cl fp => dg_name (i := 5) (nd rfl) rfl (.inl rfl) (.inr rfl)) (fun s H C cl fp => dts_one (de_tru (de_cal (ps := ["words", "others"]) C_are_strewn hr rfl (da_cons (de_var (i := 5) rfl (.inl rfl) rfl rfl) (da_cons (de_ix2 (hr).u (de_var (i := 0) rfl (.inr (.inl rfl)) rfl rfl) (de_int) (fun _ _ => rfl)) (da_nil) rfl) rfl) rfl rfl rfl) (fun _ => rfl))) (fun s H C cl fp => de_var (i := 5) rfl (.inl rfl) rfl rfl) (fun _ => rfl)) (de_int) (fun _ _ => rfl)) rfl (.inl rfl)) (ds_cons (ds_set (i := 4) (nd rfl) rfl (.inl rfl) (de_lst (da_cons (de_tup (da_cons (de_ix2 (hr).u (de_var (i := 0) rfl (.inr (.inl rfl)) rfl rfl) (de_int) (fun _ _ => rfl)) (da_cons (de_var (i := 3) rfl (.inl rfl) rfl rfl) (da_nil) rfl) rfl)) (da_nil) rfl)) rfl (.inl rfl)) (ds_cons (ds_while (never rfl) (de_cmpT opd_isNot (de_ix2 (hr).u (de_var (i := 2) rfl (.inl rfl) rfl rfl) (de_ix2 (hr).u (de_var (i := 4) rfl (.inl rfl) rfl rfl) (de_un opd_neg (de_int)) (fun _ _ => rfl)) (fun _ _ => rfl)) (de_non) rfl) (ds_cons (ds_drop (de_mt PySem.F.plainAttrs_list PySem.F.slot_list_append PySem.F.type_list_append (.inl rfl) ml_append (de_var (i := 4) rfl (.inl rfl) rfl rfl) (da_cons (de_ix2 (hr).u (de_var (i := 2) rfl (.inl rfl) rfl rfl) (de_ix2 (hr).u (de_var (i := 4) rfl (.inl rfl) rfl rfl) (de_un opd_neg (de_int)) (fun _ _ => rfl)) (fun _ _ => rfl)) (da_nil) rfl) rfl rfl rfl rfl rfl) rfl) (ds_nil))) (ds_cons (ds_ret (de_tup (da_cons (de_str) (da_cons (de_callTy cl_tuple rfl G.n_tuple rfl (da_cons (de_var (i := 4) rfl (.inl rfl) rfl rfl) (da_nil) rfl) (by decide) rfl rfl rfl) (da_nil) rfl) rfl))) (ds_nil))))
theorem sc_is_run : FnScope ["system", "start", "goal", "stands"] ["system", "start", "goal", "stands"] (defScope s_is_run) := ⟨rfl, rfl, rfl, by decide +kernel, rfl, by decide +kernel, by decide +kernel⟩
def r_is_run (sp_is_stand_in sp_are_strewn sp_leads_in : DSp) : DS := rSeq (rIfS (rOr (rNot (rTru (rArg bIsi2 (rCons (rVar 3) (rCons (rCst (.ty "tuple")) (rNil)))))) (rOr (rTB (rBin (oEq false) (rArg bLen2 (rCons (rVar 3) (rNil))) (rCst (.int 0)))) (rNot (rTru (rAG false 1 [0] (rItV (rVar 3)) (rgName 0) (rCall sp_is_stand_in 2 (rCons (rVar 1) (rCons (rVar 0) (rNil))))))))) (rSeq (rRet (rCst (.bl false))) (rNext)) (rNext)) (rSeq (rIfS (rOr (rTB (rBin (oEq true) (rBin oIx2 (rBin oIx2 (rVar 3) (rCst (.int 0))) (rCst (.int 0))) (rBin oIx2 (rVar 1) (rCst (.int 0))))) (rOr (rNot (rTru (rCall sp_are_strewn 2 (rCons (rBin oIx2 (rBin oIx2 (rVar 3) (rCst (.int 0))) (rCst (.int 1))) (rCons (rBin oIx2 (rVar 1) (rCst (.int 1))) (rNil)))))) (rTB (rBin (oEq true) (rBin oIx2 (rVar 3) (rUn oNeg (rCst (.int 1)))) (rVar 2))))) (rSeq (rRet (rCst (.bl false))) (rNext)) (rNext)) (rSeq (rRet (rAG false 2 [0] (rItZ (rCons (rVar 3) (rCons (rCut (rVar 3) (rPart (rCst (.int 1))) (rNoP)) (rNil)))) (rgTup 2 (rgCons (rgName 0) (rgCons (rgName 1) (rgNil)))) (rCall sp_leads_in 3 (rCons (rVar 2) (rCons (rVar 0) (rCons (rVar 1) (rNil))))))) (rNext)))
theorem w_is_run {P : Program} {w : World} {K : PySem.W.Frag} {T : List Addr} {mg : Str → Option Value} {base : Heap} {k : Nat} {A : Around} {outer : List Env} {s : Shared} {H : Hp} {E : XK} {ex : EK} {c Pt fA : Addr} {sp_is_stand_in sp_are_strewn sp_leads_in : DSp}
    (hr : RoomG (k + 1) (A.deeper (envOfC "is_run" (defScope s_is_run) s.heap.objs.size fA (.ref c)))) (G : Gm mg) (C_is_stand_in : Cal ⟨P, w, K, T⟩ mg base k "is_stand_in" ["system", "value"] sp_is_stand_in) (C_are_strewn : Cal ⟨P, w, K, T⟩ mg base k "are_strewn" ["words", "others"] sp_are_strewn) (C_leads_in : Cal ⟨P, w, K, T⟩ mg base k "leads_in" ["system", "one", "other"] sp_leads_in) (TB : GxR.TabB base mg c Pt) (hP : Pt ∈ T) :
    SsP' (bx P w K mg base ["system", "start", "goal", "stands"] "is_run" (defScope s_is_run) fA (.ref c) A outer s H E) T ex (defBody s_is_run) (r_is_run sp_is_stand_in sp_are_strewn sp_leads_in) := by
  unfold r_is_run
  exact ds_cons (ds_if (PW.pt (dt_or (dt_not (de_tru (de_callB cl_isi2 rfl G.n_isinstance rfl (da_cons (de_var (i := 3) rfl (.inl rfl) rfl rfl) (da_cons (de_ty rfl G.n_tuple rfl (by decide) rfl) (da_nil) rfl) rfl) (by decide) rfl rfl rfl) (fun _ => rfl))) (dt_or (de_cmpT (opd_eq (hr).u) (de_callB cl_len2 rfl G.n_len rfl (da_cons (de_var (i := 3) rfl (.inl rfl) rfl rfl) (da_nil) rfl) (by decide) rfl rfl rfl) (de_int) rfl) (dt_or1 (dt_not (de_tru (de_gx (stop := false) (own := ["stand"]) (capn := ["system"]) (caps := [0]) rfl hr rfl rfl G.n_all TB hP rfl (gxOk_by rfl) (di_val (de_var (i := 3) rfl (.inl rfl) rfl rfl)) (fun _ => rfl) (by decide) (fun s H C cl code bi A fp pn => dg_name (i := 0) (nd rfl) rfl (.inl rfl) (.inr rfl)) (fun s H C cl code bi A fp pn hr' => de_cal (ps := ["system", "value"]) C_is_stand_in hr' rfl (da_cons (de_var (i := 1) rfl (.inr (.inr rfl)) rfl rfl) (da_cons (de_var (i := 0) rfl (.inl rfl) rfl rfl) (da_nil) rfl) rfl) rfl rfl rfl) rfl) (fun _ => rfl))))))) (ds_cons (ds_ret (de_bl)) (ds_nil)) (ds_nil)) (ds_cons (ds_if (PW.pt (dt_or (de_cmpT (opd_ne (hr).u) (de_ix2 (hr).u (de_ix2 (hr).u (de_var (i := 3) rfl (.inl rfl) rfl rfl) (de_int) (fun _ _ => rfl)) (de_int) (fun _ _ => rfl)) (de_ix2 (hr).u (de_var (i := 1) rfl (.inl rfl) rfl rfl) (de_int) (fun _ _ => rfl)) rfl) (dt_or (dt_not (de_tru (de_cal (ps := ["words", "others"]) C_are_strewn (hr).low rfl (da_cons (de_ix2 (hr).u (de_ix2 (hr).u (de_var (i := 3) rfl (.inl rfl) rfl rfl) (de_int) (fun _ _ => rfl)) (de_int) (fun _ _ => rfl)) (da_cons (de_ix2 (hr).u (de_var (i := 1) rfl (.inl rfl) rfl rfl) (de_int) (fun _ _ => rfl)) (da_nil) rfl) rfl) rfl rfl rfl) (fun _ => rfl))) (dt_or1 (de_cmpT (opd_ne (hr).u) (de_ix2 (hr).u (de_var (i := 3) rfl (.inl rfl) rfl rfl) (de_un opd_neg (de_int)) (fun _ _ => rfl)) (de_var (i := 2) rfl (.inl rfl) rfl rfl) rfl))))) (ds_cons (ds_ret (de_bl)) (ds_nil)) (ds_nil)) (ds_cons (ds_ret (de_gx (stop := false) (own := ["one", "other"]) (capn := ["system"]) (caps := [0]) rfl hr rfl rfl G.n_all TB hP rfl (gxOk_by rfl) (di_zip rfl G.n_zip (da_cons (de_var (i := 3) rfl (.inl rfl) rfl rfl) (da_cons (de_cut (de_var (i := 3) rfl (.inl rfl) rfl rfl) (do_some (de_int)) (do_none)) (da_nil) rfl) rfl) rfl rfl) (fun _ => rfl) (by decide) (fun s H C cl code bi A fp pn => dg_tup rfl (dgs_cons (dg_name (i := 0) (nd rfl) rfl (.inl rfl) (.inr rfl)) (dgs_cons (dg_name (i := 1) (nd rfl) rfl (.inl rfl) (.inr rfl)) (dgs_nil) rfl) rfl) rfl rfl) (fun s H C cl code bi A fp pn hr' => de_cal (ps := ["system", "one", "other"]) C_leads_in hr' rfl (da_cons (de_var (i := 2) rfl (.inr (.inr rfl)) rfl rfl) (da_cons (de_var (i := 0) rfl (.inl rfl) rfl rfl) (da_cons (de_var (i := 1) rfl (.inl rfl) rfl rfl) (da_nil) rfl) rfl) rfl) rfl rfl rfl) rfl)) (ds_nil)))
theorem sc_are_least : FnScope ["words", "at", "one"] ["words"] (defScope s_are_least) := ⟨rfl, rfl, rfl, by decide +kernel, rfl, by decide +kernel, by decide +kernel⟩
def r_are_least (sp_are_strewn : DSp) : DS := rSeq (rFor (rItE (rCons (rVar 0) (rNil))) (rgTup 2 (rgCons (rgName 1) (rgCons (rgName 2) (rgNil)))) (rSeq (rIfS (rTru (rAG true 1 [2] (rItV (rBin oAdd (rCut (rVar 0) (rNoP) (rPart (rVar 1))) (rCut (rVar 0) (rPart (rBin oAdd (rVar 1) (rCst (.int 1)))) (rNoP)))) (rgName 0) (rCall sp_are_strewn 2 (rCons (rVar 0) (rCons (rVar 1) (rNil)))))) (rSeq (rRet (rCst (.bl false))) (rNext)) (rNext)) (rNext))) (rSeq (rRet (rCst (.bl true))) (rNext))
theorem w_are_least {P : Program} {w : World} {K : PySem.W.Frag} {T : List Addr} {mg : Str → Option Value} {base : Heap} {k : Nat} {A : Around} {outer : List Env} {s : Shared} {H : Hp} {E : XK} {ex : EK} {c Pt fA : Addr} {sp_are_strewn : DSp}
    (hr : RoomG (k + 1) (A.deeper (envOfC "are_least" (defScope s_are_least) s.heap.objs.size fA (.ref c)))) (G : Gm mg) (C_are_strewn : Cal ⟨P, w, K, T⟩ mg base k "are_strewn" ["words", "others"] sp_are_strewn) (TB : GxR.TabB base mg c Pt) (hP : Pt ∈ T) :
    SsP' (bx P w K mg base ["words", "at", "one"] "are_least" (defScope s_are_least) fA (.ref c) A outer s H E) T ex (defBody s_are_least) (r_are_least sp_are_strewn) := by
  unfold r_are_least
  exact ds_cons (ds_for (never rfl) rfl (di_enum rfl G.n_enumerate (da_cons (de_var (i := 0) rfl (.inl rfl) rfl rfl) (da_nil) rfl) rfl) (dg_tup rfl (dgs_cons (dg_name (i := 1) (nd rfl) rfl (.inl rfl) (.inl rfl)) (dgs_cons (dg_name (i := 2) (nd rfl) rfl (.inr rfl) (.inl rfl)) (dgs_nil) rfl) rfl) rfl rfl) (ds_cons (ds_if (de_tru (de_gx (stop := true) (own := ["other"]) (capn := ["one"]) (caps := [2]) rfl hr rfl rfl G.n_any TB hP rfl (gxOk_by rfl) (di_val (de_bin opd_add (de_cut (de_var (i := 0) rfl (.inl rfl) rfl rfl) (do_none) (do_some (de_var (i := 1) rfl (.inl rfl) rfl rfl))) (de_cut (de_var (i := 0) rfl (.inl rfl) rfl rfl) (do_some (de_bin opd_add (de_var (i := 1) rfl (.inl rfl) rfl rfl) (de_int))) (do_none)))) (fun _ => rfl) (by decide) (fun s H C cl code bi A fp pn => dg_name (i := 0) (nd rfl) rfl (.inl rfl) (.inr rfl)) (fun s H C cl code bi A fp pn hr' => de_cal (ps := ["words", "others"]) C_are_strewn hr' rfl (da_cons (de_var (i := 0) rfl (.inl rfl) rfl rfl) (da_cons (de_var (i := 1) rfl (.inr (.inr rfl)) rfl rfl) (da_nil) rfl) rfl) rfl rfl rfl) rfl) (fun _ => rfl)) (ds_cons (ds_ret (de_bl)) (ds_nil)) (ds_nil)) (ds_nil)) (fun _ => rfl)) (ds_cons (ds_ret (de_bl)) (ds_nil))
theorem sc_are_bars : FnScope ["system", "bars", "own"] ["system", "bars"] (defScope s_are_bars) := ⟨rfl, rfl, rfl, by decide +kernel, rfl, by decide +kernel, by decide +kernel⟩
def r_are_bars (sp_are_words sp_is_ascending sp_are_least : DSp) : DS := rSeq (rIfS (rOr (rNot (rTru (rArg bIsi2 (rCons (rVar 1) (rCons (rCst (.ty "tuple")) (rNil)))))) (rTB (rBin (oEq true) (rArg bLen2 (rCons (rVar 1) (rNil))) (rBin oIx2 (rVar 0) (rCst (.int 1)))))) (rSeq (rRet (rCst (.bl false))) (rNext)) (rNext)) (rSeq (rFor (rItV (rVar 1)) (rgName 2) (rSeq (rIfS (rOr (rNot (rTru (rArg bIsi2 (rCons (rVar 2) (rCons (rCst (.ty "tuple")) (rNil)))))) (rNot (rTru (rAG false 1 [0] (rItV (rVar 2)) (rgName 0) (rCall sp_are_words 2 (rCons (rVar 1) (rCons (rVar 0) (rNil)))))))) (rSeq (rRet (rCst (.bl false))) (rNext)) (rNext)) (rSeq (rIfS (rOr (rNot (rTru (rCall sp_is_ascending 1 (rCons (rVar 2) (rNil))))) (rNot (rTru (rCall sp_are_least 1 (rCons (rVar 2) (rNil)))))) (rSeq (rRet (rCst (.bl false))) (rNext)) (rNext)) (rNext)))) (rSeq (rRet (rCst (.bl true))) (rNext)))
theorem w_are_bars {P : Program} {w : World} {K : PySem.W.Frag} {T : List Addr} {mg : Str → Option Value} {base : Heap} {k : Nat} {A : Around} {outer : List Env} {s : Shared} {H : Hp} {E : XK} {ex : EK} {c Pt fA : Addr} {sp_are_words sp_is_ascending sp_are_least : DSp}
    (hr : RoomG (k + 1) (A.deeper (envOfC "are_bars" (defScope s_are_bars) s.heap.objs.size fA (.ref c)))) (G : Gm mg) (C_are_words : Cal ⟨P, w, K, T⟩ mg base k "are_words" ["system", "told"] sp_are_words) (C_is_ascending : Cal ⟨P, w, K, T⟩ mg base k "is_ascending" ["some"] sp_is_ascending) (C_are_least : Cal ⟨P, w, K, T⟩ mg base k "are_least" ["words"] sp_are_least) (TB : GxR.TabB base mg c Pt) (hP : Pt ∈ T) :
    SsP' (bx P w K mg base ["system", "bars", "own"] "are_bars" (defScope s_are_bars) fA (.ref c) A outer s H E) T ex (defBody s_are_bars) (r_are_bars sp_are_words sp_is_ascending sp_are_least) := by
  unfold r_are_bars
  exact ds_cons (ds_if (PW.pt (dt_or (dt_not (de_tru (de_callB cl_isi2 rfl G.n_isinstance rfl (da_cons (de_var (i := 1) rfl (.inl rfl) rfl rfl) (da_cons (de_ty rfl G.n_tuple rfl (by decide) rfl) (da_nil) rfl) rfl) (by decide) rfl rfl rfl) (fun _ => rfl))) (dt_or1 (de_cmpT (opd_ne (hr).u) (de_callB cl_len2 rfl G.n_len rfl (da_cons (de_var (i := 1) rfl (.inl rfl) rfl rfl) (da_nil) rfl) (by decide) rfl rfl rfl) (de_ix2 (hr).u (de_var (i := 0) rfl (.inr (.inl rfl)) rfl rfl) (de_int) (fun _ _ => rfl)) rfl)))) (ds_cons (ds_ret (de_bl)) (ds_nil)) (ds_nil)) (ds_cons (ds_for (never rfl) rfl (di_val (de_var (i := 1) rfl (.inl rfl) rfl rfl)) (dg_name (i := 2) (nd rfl) rfl (.inl rfl) (.inl rfl)) (ds_cons (ds_if (PW.pt (dt_or (dt_not (de_tru (de_callB cl_isi2 rfl G.n_isinstance rfl (da_cons (de_var (i := 2) rfl (.inl rfl) rfl rfl) (da_cons (de_ty rfl G.n_tuple rfl (by decide) rfl) (da_nil) rfl) rfl) (by decide) rfl rfl rfl) (fun _ => rfl))) (dt_or1 (dt_not (de_tru (de_gx (stop := false) (own := ["words"]) (capn := ["system"]) (caps := [0]) rfl hr rfl rfl G.n_all TB hP rfl (gxOk_by rfl) (di_val (de_var (i := 2) rfl (.inl rfl) rfl rfl)) (fun _ => rfl) (by decide) (fun s H C cl code bi A fp pn => dg_name (i := 0) (nd rfl) rfl (.inl rfl) (.inr rfl)) (fun s H C cl code bi A fp pn hr' => de_cal (ps := ["system", "told"]) C_are_words hr' rfl (da_cons (de_var (i := 1) rfl (.inr (.inr rfl)) rfl rfl) (da_cons (de_var (i := 0) rfl (.inl rfl) rfl rfl) (da_nil) rfl) rfl) rfl rfl rfl) rfl) (fun _ => rfl)))))) (ds_cons (ds_ret (de_bl)) (ds_nil)) (ds_nil)) (ds_cons (ds_if (PW.pt (dt_or (dt_not (de_tru (de_cal (ps := ["some"]) C_is_ascending (hr).low rfl (da_cons (de_var (i := 2) rfl (.inl rfl) rfl rfl) (da_nil) rfl) rfl rfl rfl) (fun _ => rfl))) (dt_or1 (dt_not (de_tru (de_cal (ps := ["words"]) C_are_least (hr).low rfl (da_cons (de_var (i := 2) rfl (.inl rfl) rfl rfl) (da_nil) rfl) rfl rfl rfl) (fun _ => rfl)))))) (ds_cons (ds_ret (de_bl)) (ds_nil)) (ds_nil)) (ds_nil))) (fun _ => rfl)) (ds_cons (ds_ret (de_bl)) (ds_nil)))
theorem sc_is_closed : FnScope ["system", "bars", "there", "deed", "room"] ["system", "bars"] (defScope s_is_closed) := ⟨rfl, rfl, rfl, by decide +kernel, rfl, by decide +kernel, by decide +kernel⟩
def r_is_closed (sp_is_at sp_words_ahead : DSp) : DS := rSeq (rFor (rItV (rBin oIx2 (rVar 0) (rCst (.int 3)))) (rgTup 3 (rgCons (rgName 4) (rgCons (rgName 3) (rgCons (rgName 2) (rgNil))))) (rSeq (rIfS (rNot (rTru (rAG false 1 [1, 3, 4] (rItV (rBin oIx2 (rVar 1) (rVar 2))) (rgName 0) (rCall sp_is_at 2 (rCons (rVar 1) (rCons (rTup (rCons (rVar 3) (rCons (rCall sp_words_ahead 2 (rCons (rVar 2) (rCons (rVar 0) (rNil)))) (rNil)))) (rNil))))))) (rSeq (rRet (rCst (.bl false))) (rNext)) (rNext)) (rNext))) (rSeq (rRet (rCst (.bl true))) (rNext))
theorem w_is_closed {P : Program} {w : World} {K : PySem.W.Frag} {T : List Addr} {mg : Str → Option Value} {base : Heap} {k : Nat} {A : Around} {outer : List Env} {s : Shared} {H : Hp} {E : XK} {ex : EK} {c Pt fA : Addr} {sp_is_at sp_words_ahead : DSp}
    (hr : RoomG (k + 1) (A.deeper (envOfC "is_closed" (defScope s_is_closed) s.heap.objs.size fA (.ref c)))) (G : Gm mg) (C_is_at : Cal ⟨P, w, K, T⟩ mg base k "is_at" ["bars", "stand"] sp_is_at) (C_words_ahead : Cal ⟨P, w, K, T⟩ mg base k "words_ahead" ["deed", "words"] sp_words_ahead) (TB : GxR.TabB base mg c Pt) (hP : Pt ∈ T) :
    SsP' (bx P w K mg base ["system", "bars", "there", "deed", "room"] "is_closed" (defScope s_is_closed) fA (.ref c) A outer s H E) T ex (defBody s_is_closed) (r_is_closed sp_is_at sp_words_ahead) := by
  unfold r_is_closed
  exact ds_cons (ds_for (never rfl) rfl (di_val (de_ix2 (hr).u (de_var (i := 0) rfl (.inl rfl) rfl rfl) (de_int) (fun _ _ => rfl))) (dg_tup rfl (dgs_cons (dg_name (i := 4) (nd rfl) rfl (.inr rfl) (.inl rfl)) (dgs_cons (dg_name (i := 3) (nd rfl) rfl (.inr rfl) (.inl rfl)) (dgs_cons (dg_name (i := 2) (nd rfl) rfl (.inl rfl) (.inl rfl)) (dgs_nil) rfl) rfl) rfl) rfl rfl) (ds_cons (ds_if (dt_not (de_tru (de_gx (stop := false) (own := ["words"]) (capn := ["bars", "deed", "room"]) (caps := [1, 3, 4]) rfl hr rfl rfl G.n_all TB hP rfl (gxOk_by rfl) (di_val (de_ix2 (hr).u (de_var (i := 1) rfl (.inr (.inl rfl)) rfl rfl) (de_var (i := 2) rfl (.inl rfl) rfl rfl) (fun _ _ => rfl))) (fun _ => rfl) (by decide) (fun s H C cl code bi A fp pn => dg_name (i := 0) (nd rfl) rfl (.inl rfl) (.inr rfl)) (fun s H C cl code bi A fp pn hr' => de_cal (ps := ["bars", "stand"]) C_is_at hr' rfl (da_cons (de_var (i := 1) rfl (.inr (.inr rfl)) rfl rfl) (da_cons (de_tup (da_cons (de_var (i := 3) rfl (.inr (.inr rfl)) rfl rfl) (da_cons (de_cal (ps := ["deed", "words"]) C_words_ahead hr' rfl (da_cons (de_var (i := 2) rfl (.inr (.inr rfl)) rfl rfl) (da_cons (de_var (i := 0) rfl (.inl rfl) rfl rfl) (da_nil) rfl) rfl) rfl rfl rfl) (da_nil) rfl) rfl)) (da_nil) rfl) rfl) rfl rfl rfl) rfl) (fun _ => rfl))) (ds_cons (ds_ret (de_bl)) (ds_nil)) (ds_nil)) (ds_nil)) (fun _ => rfl)) (ds_cons (ds_ret (de_bl)) (ds_nil))
theorem sc_leads_on : FnScope ["system", "one", "other"] ["system", "one", "other"] (defScope s_leads_on) := ⟨rfl, rfl, rfl, by decide +kernel, rfl, by decide +kernel, by decide +kernel⟩
def r_leads_on (sp_check_system sp_check_stand sp_leads_in : DSp) : DS := rSeq (rDrop (rCall sp_check_system 1 (rCons (rVar 0) (rNil)))) (rSeq (rDrop (rCall sp_check_stand 2 (rCons (rVar 0) (rCons (rVar 1) (rNil))))) (rSeq (rDrop (rCall sp_check_stand 2 (rCons (rVar 0) (rCons (rVar 2) (rNil))))) (rSeq (rRet (rCall sp_leads_in 3 (rCons (rVar 0) (rCons (rVar 1) (rCons (rVar 2) (rNil)))))) (rNext))))
theorem w_leads_on {P : Program} {w : World} {K : PySem.W.Frag} {T : List Addr} {mg : Str → Option Value} {base : Heap} {k : Nat} {A : Around} {outer : List Env} {s : Shared} {H : Hp} {E : XK} {ex : EK} {c Pt fA : Addr} {sp_check_system sp_check_stand sp_leads_in : DSp}
    (hr : RoomG (k + 0) (A.deeper (envOfC "leads_on" (defScope s_leads_on) s.heap.objs.size fA (.ref c)))) (G : Gm mg) (C_check_system : Cal ⟨P, w, K, T⟩ mg base k "check_system" ["system"] sp_check_system) (C_check_stand : Cal ⟨P, w, K, T⟩ mg base k "check_stand" ["system", "stand"] sp_check_stand) (C_leads_in : Cal ⟨P, w, K, T⟩ mg base k "leads_in" ["system", "one", "other"] sp_leads_in) :
    SsP' (bx P w K mg base ["system", "one", "other"] "leads_on" (defScope s_leads_on) fA (.ref c) A outer s H E) T ex (defBody s_leads_on) (r_leads_on sp_check_system sp_check_stand sp_leads_in) := by
  unfold r_leads_on
  exact ds_cons (ds_drop (de_cal (ps := ["system"]) C_check_system hr rfl (da_cons (de_var (i := 0) rfl (.inl rfl) rfl rfl) (da_nil) rfl) rfl rfl rfl) rfl) (ds_cons (ds_drop (de_cal (ps := ["system", "stand"]) C_check_stand hr rfl (da_cons (de_var (i := 0) rfl (.inl rfl) rfl rfl) (da_cons (de_var (i := 1) rfl (.inl rfl) rfl rfl) (da_nil) rfl) rfl) rfl rfl rfl) rfl) (ds_cons (ds_drop (de_cal (ps := ["system", "stand"]) C_check_stand hr rfl (da_cons (de_var (i := 0) rfl (.inl rfl) rfl rfl) (da_cons (de_var (i := 2) rfl (.inl rfl) rfl rfl) (da_nil) rfl) rfl) rfl rfl rfl) rfl) (ds_cons (ds_ret (de_cal (ps := ["system", "one", "other"]) C_leads_in hr rfl (da_cons (de_var (i := 0) rfl (.inl rfl) rfl rfl) (da_cons (de_var (i := 1) rfl (.inl rfl) rfl rfl) (da_cons (de_var (i := 2) rfl (.inl rfl) rfl rfl) (da_nil) rfl) rfl) rfl) rfl rfl rfl)) (ds_nil))))
theorem sc_ahead : FnScope ["system", "goal"] ["system", "goal"] (defScope s_ahead) := ⟨rfl, rfl, rfl, by decide +kernel, rfl, by decide +kernel, by decide +kernel⟩
def r_ahead (sp_check_system sp_check_stand sp_ways_to : DSp) : DS := rSeq (rDrop (rCall sp_check_system 1 (rCons (rVar 0) (rNil)))) (rSeq (rDrop (rCall sp_check_stand 2 (rCons (rVar 0) (rCons (rVar 1) (rNil))))) (rSeq (rRet (rBin oIx2 (rCall sp_ways_to 2 (rCons (rVar 0) (rCons (rVar 1) (rNil)))) (rCst (.int 0)))) (rNext)))
theorem w_ahead {P : Program} {w : World} {K : PySem.W.Frag} {T : List Addr} {mg : Str → Option Value} {base : Heap} {k : Nat} {A : Around} {outer : List Env} {s : Shared} {H : Hp} {E : XK} {ex : EK} {c Pt fA : Addr} {sp_check_system sp_check_stand sp_ways_to : DSp}
    (hr : RoomG (k + 0) (A.deeper (envOfC "ahead" (defScope s_ahead) s.heap.objs.size fA (.ref c)))) (G : Gm mg) (C_check_system : Cal ⟨P, w, K, T⟩ mg base k "check_system" ["system"] sp_check_system) (C_check_stand : Cal ⟨P, w, K, T⟩ mg base k "check_stand" ["system", "stand"] sp_check_stand) (C_ways_to : Cal ⟨P, w, K, T⟩ mg base k "ways_to" ["system", "goal"] sp_ways_to) :
    SsP' (bx P w K mg base ["system", "goal"] "ahead" (defScope s_ahead) fA (.ref c) A outer s H E) T ex (defBody s_ahead) (r_ahead sp_check_system sp_check_stand sp_ways_to) := by
  unfold r_ahead
  exact ds_cons (ds_drop (de_cal (ps := ["system"]) C_check_system hr rfl (da_cons (de_var (i := 0) rfl (.inl rfl) rfl rfl) (da_nil) rfl) rfl rfl rfl) rfl) (ds_cons (ds_drop (de_cal (ps := ["system", "stand"]) C_check_stand hr rfl (da_cons (de_var (i := 0) rfl (.inl rfl) rfl rfl) (da_cons (de_var (i := 1) rfl (.inl rfl) rfl rfl) (da_nil) rfl) rfl) rfl rfl rfl) rfl) (ds_cons (ds_ret (de_ix2 (hr).u (de_cal (ps := ["system", "goal"]) C_ways_to hr rfl (da_cons (de_var (i := 0) rfl (.inl rfl) rfl rfl) (da_cons (de_var (i := 1) rfl (.inl rfl) rfl rfl) (da_nil) rfl) rfl) rfl rfl rfl) (de_int) (fun _ _ => rfl))) (ds_nil)))
theorem sc_comes : FnScope ["system", "start", "goal", "bars", "ways"] ["system", "start", "goal"] (defScope s_comes) := ⟨rfl, rfl, rfl, by decide +kernel, rfl, by decide +kernel, by decide +kernel⟩
def r_comes (sp_check_system sp_check_stand sp_ways_to sp_is_at sp_run_from : DSp) : DS := rSeq (rDrop (rCall sp_check_system 1 (rCons (rVar 0) (rNil)))) (rSeq (rDrop (rCall sp_check_stand 2 (rCons (rVar 0) (rCons (rVar 1) (rNil))))) (rSeq (rDrop (rCall sp_check_stand 2 (rCons (rVar 0) (rCons (rVar 2) (rNil))))) (rSeq (rAsg (rCall sp_ways_to 2 (rCons (rVar 0) (rCons (rVar 2) (rNil)))) (rgTup 2 (rgCons (rgName 3) (rgCons (rgName 4) (rgNil))))) (rSeq (rRet (rIf (rTru (rCall sp_is_at 2 (rCons (rVar 3) (rCons (rVar 1) (rNil))))) (rCall sp_run_from 3 (rCons (rVar 1) (rCons (rVar 3) (rCons (rVar 4) (rNil))))) (rTup (rCons (rCst (.str "barrier")) (rCons (rVar 3) (rNil)))))) (rNext)))))
theorem w_comes {P : Program} {w : World} {K : PySem.W.Frag} {T : List Addr} {mg : Str → Option Value} {base : Heap} {k : Nat} {A : Around} {outer : List Env} {s : Shared} {H : Hp} {E : XK} {ex : EK} {c Pt fA : Addr} {sp_check_system sp_check_stand sp_ways_to sp_is_at sp_run_from : DSp}
    (hr : RoomG (k + 0) (A.deeper (envOfC "comes" (defScope s_comes) s.heap.objs.size fA (.ref c)))) (G : Gm mg) (C_check_system : Cal ⟨P, w, K, T⟩ mg base k "check_system" ["system"] sp_check_system) (C_check_stand : Cal ⟨P, w, K, T⟩ mg base k "check_stand" ["system", "stand"] sp_check_stand) (C_ways_to : Cal ⟨P, w, K, T⟩ mg base k "ways_to" ["system", "goal"] sp_ways_to) (C_is_at : Cal ⟨P, w, K, T⟩ mg base k "is_at" ["bars", "stand"] sp_is_at) (C_run_from : Cal ⟨P, w, K, T⟩ mg base k "run_from" ["start", "bars", "ways"] sp_run_from) :
    SsP' (bx P w K mg base ["system", "start", "goal", "bars", "ways"] "comes" (defScope s_comes) fA (.ref c) A outer s H E) T ex (defBody s_comes) (r_comes sp_check_system sp_check_stand sp_ways_to sp_is_at sp_run_from) := by
  unfold r_comes
  exact ds_cons (ds_drop (de_cal (ps := ["system"]) C_check_system hr rfl (da_cons (de_var (i := 0) rfl (.inl rfl) rfl rfl) (da_nil) rfl) rfl rfl rfl) rfl) (ds_cons (ds_drop (de_cal (ps := ["system", "stand"]) C_check_stand hr rfl (da_cons (de_var (i := 0) rfl (.inl rfl) rfl rfl) (da_cons (de_var (i := 1) rfl (.inl rfl) rfl rfl) (da_nil) rfl) rfl) rfl rfl rfl) rfl) (ds_cons (ds_drop (de_cal (ps := ["system", "stand"]) C_check_stand hr rfl (da_cons (de_var (i := 0) rfl (.inl rfl) rfl rfl) (da_cons (de_var (i := 2) rfl (.inl rfl) rfl rfl) (da_nil) rfl) rfl) rfl rfl rfl) rfl) (ds_cons (ds_asg (de_cal (ps := ["system", "goal"]) C_ways_to hr rfl (da_cons (de_var (i := 0) rfl (.inl rfl) rfl rfl) (da_cons (de_var (i := 2) rfl (.inl rfl) rfl rfl) (da_nil) rfl) rfl) rfl rfl rfl) (dg_tup rfl (dgs_cons (dg_name (i := 3) (nd rfl) rfl (.inl rfl) (.inl rfl)) (dgs_cons (dg_name (i := 4) (nd rfl) rfl (.inl rfl) (.inl rfl)) (dgs_nil) rfl) rfl) rfl rfl) rfl rfl rfl) (ds_cons (ds_ret (de_if (de_tru (de_cal (ps := ["bars", "stand"]) C_is_at hr rfl (da_cons (de_var (i := 3) rfl (.inl rfl) rfl rfl) (da_cons (de_var (i := 1) rfl (.inl rfl) rfl rfl) (da_nil) rfl) rfl) rfl rfl rfl) (fun _ => rfl)) (de_cal (ps := ["start", "bars", "ways"]) C_run_from hr rfl (da_cons (de_var (i := 1) rfl (.inl rfl) rfl rfl) (da_cons (de_var (i := 3) rfl (.inl rfl) rfl rfl) (da_cons (de_var (i := 4) rfl (.inl rfl) rfl rfl) (da_nil) rfl) rfl) rfl) rfl rfl rfl) (de_tup (da_cons (de_str) (da_cons (de_var (i := 3) rfl (.inl rfl) rfl rfl) (da_nil) rfl) rfl)))) (ds_nil)))))
theorem sc_judge_comes : FnScope ["system", "start", "goal", "value"] ["system", "start", "goal", "value"] (defScope s_judge_comes) := ⟨rfl, rfl, rfl, by decide +kernel, rfl, by decide +kernel, by decide +kernel⟩
def r_judge_comes (sp_check_system sp_check_stand sp_is_run sp_are_bars sp_is_at sp_is_closed : DSp) : DS := rSeq (rDrop (rCall sp_check_system 1 (rCons (rVar 0) (rNil)))) (rSeq (rDrop (rCall sp_check_stand 2 (rCons (rVar 0) (rCons (rVar 1) (rNil))))) (rSeq (rDrop (rCall sp_check_stand 2 (rCons (rVar 0) (rCons (rVar 2) (rNil))))) (rSeq (rIfS (rOr (rNot (rTru (rArg bIsi2 (rCons (rVar 3) (rCons (rCst (.ty "tuple")) (rNil)))))) (rOr (rTB (rBin (oEq true) (rArg bLen2 (rCons (rVar 3) (rNil))) (rCst (.int 2)))) (rNot (rTru (rArg bIsi2 (rCons (rBin oIx2 (rVar 3) (rCst (.int 0))) (rCons (rCst (.ty "str")) (rNil)))))))) (rSeq (rRet (rCst (.bl false))) (rNext)) (rNext)) (rSeq (rIfS (rTB (rBin (oEq false) (rBin oIx2 (rVar 3) (rCst (.int 0))) (rCst (.str "run")))) (rSeq (rRet (rCall sp_is_run 4 (rCons (rVar 0) (rCons (rVar 1) (rCons (rVar 2) (rCons (rBin oIx2 (rVar 3) (rCst (.int 1))) (rNil))))))) (rNext)) (rNext)) (rSeq (rIfS (rOr (rTB (rBin (oEq true) (rBin oIx2 (rVar 3) (rCst (.int 0))) (rCst (.str "barrier")))) (rNot (rTru (rCall sp_are_bars 2 (rCons (rVar 0) (rCons (rBin oIx2 (rVar 3) (rCst (.int 1))) (rNil))))))) (rSeq (rRet (rCst (.bl false))) (rNext)) (rNext)) (rSeq (rRet (rAndV (rCall sp_is_at 2 (rCons (rBin oIx2 (rVar 3) (rCst (.int 1))) (rCons (rVar 2) (rNil)))) (rAndV (rNotV (rCall sp_is_at 2 (rCons (rBin oIx2 (rVar 3) (rCst (.int 1))) (rCons (rVar 1) (rNil))))) (rCall sp_is_closed 2 (rCons (rVar 0) (rCons (rBin oIx2 (rVar 3) (rCst (.int 1))) (rNil))))))) (rNext)))))))
theorem w_judge_comes {P : Program} {w : World} {K : PySem.W.Frag} {T : List Addr} {mg : Str → Option Value} {base : Heap} {k : Nat} {A : Around} {outer : List Env} {s : Shared} {H : Hp} {E : XK} {ex : EK} {c Pt fA : Addr} {sp_check_system sp_check_stand sp_is_run sp_are_bars sp_is_at sp_is_closed : DSp}
    (hr : RoomG (k + 0) (A.deeper (envOfC "judge_comes" (defScope s_judge_comes) s.heap.objs.size fA (.ref c)))) (G : Gm mg) (C_check_system : Cal ⟨P, w, K, T⟩ mg base k "check_system" ["system"] sp_check_system) (C_check_stand : Cal ⟨P, w, K, T⟩ mg base k "check_stand" ["system", "stand"] sp_check_stand) (C_is_run : Cal ⟨P, w, K, T⟩ mg base k "is_run" ["system", "start", "goal", "stands"] sp_is_run) (C_are_bars : Cal ⟨P, w, K, T⟩ mg base k "are_bars" ["system", "bars"] sp_are_bars) (C_is_at : Cal ⟨P, w, K, T⟩ mg base k "is_at" ["bars", "stand"] sp_is_at) (C_is_closed : Cal ⟨P, w, K, T⟩ mg base k "is_closed" ["system", "bars"] sp_is_closed) :
    SsP' (bx P w K mg base ["system", "start", "goal", "value"] "judge_comes" (defScope s_judge_comes) fA (.ref c) A outer s H E) T ex (defBody s_judge_comes) (r_judge_comes sp_check_system sp_check_stand sp_is_run sp_are_bars sp_is_at sp_is_closed) := by
  unfold r_judge_comes
  exact ds_cons (ds_drop (de_cal (ps := ["system"]) C_check_system hr rfl (da_cons (de_var (i := 0) rfl (.inl rfl) rfl rfl) (da_nil) rfl) rfl rfl rfl) rfl) (ds_cons (ds_drop (de_cal (ps := ["system", "stand"]) C_check_stand hr rfl (da_cons (de_var (i := 0) rfl (.inl rfl) rfl rfl) (da_cons (de_var (i := 1) rfl (.inl rfl) rfl rfl) (da_nil) rfl) rfl) rfl rfl rfl) rfl) (ds_cons (ds_drop (de_cal (ps := ["system", "stand"]) C_check_stand hr rfl (da_cons (de_var (i := 0) rfl (.inl rfl) rfl rfl) (da_cons (de_var (i := 2) rfl (.inl rfl) rfl rfl) (da_nil) rfl) rfl) rfl rfl rfl) rfl) (ds_cons (ds_if (PW.pt (dt_or (dt_not (de_tru (de_callB cl_isi2 rfl G.n_isinstance rfl (da_cons (de_var (i := 3) rfl (.inl rfl) rfl rfl) (da_cons (de_ty rfl G.n_tuple rfl (by decide) rfl) (da_nil) rfl) rfl) (by decide) rfl rfl rfl) (fun _ => rfl))) (dt_or (de_cmpT (opd_ne (hr).u) (de_callB cl_len2 rfl G.n_len rfl (da_cons (de_var (i := 3) rfl (.inl rfl) rfl rfl) (da_nil) rfl) (by decide) rfl rfl rfl) (de_int) rfl) (dt_or1 (dt_not (de_tru (de_callB cl_isi2 rfl G.n_isinstance rfl (da_cons (de_ix2 (hr).u (de_var (i := 3) rfl (.inl rfl) rfl rfl) (de_int) (fun _ _ => rfl)) (da_cons (de_ty rfl G.n_str rfl (by decide) rfl) (da_nil) rfl) rfl) (by decide) rfl rfl rfl) (fun _ => rfl))))))) (ds_cons (ds_ret (de_bl)) (ds_nil)) (ds_nil)) (ds_cons (ds_if (de_cmpT (opd_eq (hr).u) (de_ix2 (hr).u (de_var (i := 3) rfl (.inl rfl) rfl rfl) (de_int) (fun _ _ => rfl)) (de_str) rfl) (ds_cons (ds_ret (de_cal (ps := ["system", "start", "goal", "stands"]) C_is_run hr rfl (da_cons (de_var (i := 0) rfl (.inl rfl) rfl rfl) (da_cons (de_var (i := 1) rfl (.inl rfl) rfl rfl) (da_cons (de_var (i := 2) rfl (.inl rfl) rfl rfl) (da_cons (de_ix2 (hr).u (de_var (i := 3) rfl (.inl rfl) rfl rfl) (de_int) (fun _ _ => rfl)) (da_nil) rfl) rfl) rfl) rfl) rfl rfl rfl)) (ds_nil)) (ds_nil)) (ds_cons (ds_if (PW.pt (dt_or (de_cmpT (opd_ne (hr).u) (de_ix2 (hr).u (de_var (i := 3) rfl (.inl rfl) rfl rfl) (de_int) (fun _ _ => rfl)) (de_str) rfl) (dt_or1 (dt_not (de_tru (de_cal (ps := ["system", "bars"]) C_are_bars hr rfl (da_cons (de_var (i := 0) rfl (.inl rfl) rfl rfl) (da_cons (de_ix2 (hr).u (de_var (i := 3) rfl (.inl rfl) rfl rfl) (de_int) (fun _ _ => rfl)) (da_nil) rfl) rfl) rfl rfl rfl) (fun _ => rfl)))))) (ds_cons (ds_ret (de_bl)) (ds_nil)) (ds_nil)) (ds_cons (ds_ret (de_and (de_cal (ps := ["bars", "stand"]) C_is_at hr rfl (da_cons (de_ix2 (hr).u (de_var (i := 3) rfl (.inl rfl) rfl rfl) (de_int) (fun _ _ => rfl)) (da_cons (de_var (i := 2) rfl (.inl rfl) rfl rfl) (da_nil) rfl) rfl) rfl rfl rfl) (de_and (de_not (de_cal (ps := ["bars", "stand"]) C_is_at hr rfl (da_cons (de_ix2 (hr).u (de_var (i := 3) rfl (.inl rfl) rfl rfl) (de_int) (fun _ _ => rfl)) (da_cons (de_var (i := 1) rfl (.inl rfl) rfl rfl) (da_nil) rfl) rfl) rfl rfl rfl)) (de_one (de_cal (ps := ["system", "bars"]) C_is_closed hr rfl (da_cons (de_var (i := 0) rfl (.inl rfl) rfl rfl) (da_cons (de_ix2 (hr).u (de_var (i := 3) rfl (.inl rfl) rfl rfl) (de_int) (fun _ _ => rfl)) (da_nil) rfl) rfl) rfl rfl rfl))))) (ds_nil)))))))
theorem sc_is_atom : FnScope ["k", "told"] ["k", "told"] (defScope s_is_atom) := ⟨rfl, rfl, rfl, by decide +kernel, rfl, by decide +kernel, by decide +kernel⟩
def r_is_atom (sp_is_below sp_is_ascending : DSp) : DS := rSeq (rIfS (rOr (rNot (rTru (rArg bIsi2 (rCons (rVar 1) (rCons (rCst (.ty "tuple")) (rNil)))))) (rOr (rTB (rBin (oEq true) (rArg bLen2 (rCons (rVar 1) (rNil))) (rCst (.int 2)))) (rNot (rTru (rArg bIsi2 (rCons (rBin oIx2 (rVar 1) (rCst (.int 0))) (rCons (rCst (.ty "str")) (rNil)))))))) (rSeq (rRet (rCst (.bl false))) (rNext)) (rNext)) (rSeq (rIfS (rTB (rBin (oEq false) (rBin oIx2 (rVar 1) (rCst (.int 0))) (rCst (.str "one")))) (rSeq (rRet (rCall sp_is_below 2 (rCons (rBin oIx2 (rVar 1) (rCst (.int 1))) (rCons (rVar 0) (rNil))))) (rNext)) (rNext)) (rSeq (rIfS (rOr (rTB (rBin (oEq true) (rBin oIx2 (rVar 1) (rCst (.int 0))) (rCst (.str "any")))) (rOr (rNot (rTru (rArg bIsi2 (rCons (rBin oIx2 (rVar 1) (rCst (.int 1))) (rCons (rCst (.ty "tuple")) (rNil)))))) (rTB (rBin (oEq false) (rArg bLen2 (rCons (rBin oIx2 (rVar 1) (rCst (.int 1))) (rNil))) (rCst (.int 0)))))) (rSeq (rRet (rCst (.bl false))) (rNext)) (rNext)) (rSeq (rRet (rAndV (rAG false 1 [0] (rItV (rBin oIx2 (rVar 1) (rCst (.int 1)))) (rgName 0) (rCall sp_is_below 2 (rCons (rVar 0) (rCons (rVar 1) (rNil))))) (rCall sp_is_ascending 1 (rCons (rBin oIx2 (rVar 1) (rCst (.int 1))) (rNil))))) (rNext))))
theorem w_is_atom {P : Program} {w : World} {K : PySem.W.Frag} {T : List Addr} {mg : Str → Option Value} {base : Heap} {k : Nat} {A : Around} {outer : List Env} {s : Shared} {H : Hp} {E : XK} {ex : EK} {c Pt fA : Addr} {sp_is_below sp_is_ascending : DSp}
    (hr : RoomG (k + 1) (A.deeper (envOfC "is_atom" (defScope s_is_atom) s.heap.objs.size fA (.ref c)))) (G : Gm mg) (C_is_below : Cal ⟨P, w, K, T⟩ mg base k "is_below" ["value", "many"] sp_is_below) (C_is_ascending : Cal ⟨P, w, K, T⟩ mg base k "is_ascending" ["some"] sp_is_ascending) (TB : GxR.TabB base mg c Pt) (hP : Pt ∈ T) :
    SsP' (bx P w K mg base ["k", "told"] "is_atom" (defScope s_is_atom) fA (.ref c) A outer s H E) T ex (defBody s_is_atom) (r_is_atom sp_is_below sp_is_ascending) := by
  unfold r_is_atom
  exact ds_cons (ds_if (PW.pt (dt_or (dt_not (de_tru (de_callB cl_isi2 rfl G.n_isinstance rfl (da_cons (de_var (i := 1) rfl (.inl rfl) rfl rfl) (da_cons (de_ty rfl G.n_tuple rfl (by decide) rfl) (da_nil) rfl) rfl) (by decide) rfl rfl rfl) (fun _ => rfl))) (dt_or (de_cmpT (opd_ne (hr).u) (de_callB cl_len2 rfl G.n_len rfl (da_cons (de_var (i := 1) rfl (.inl rfl) rfl rfl) (da_nil) rfl) (by decide) rfl rfl rfl) (de_int) rfl) (dt_or1 (dt_not (de_tru (de_callB cl_isi2 rfl G.n_isinstance rfl (da_cons (de_ix2 (hr).u (de_var (i := 1) rfl (.inl rfl) rfl rfl) (de_int) (fun _ _ => rfl)) (da_cons (de_ty rfl G.n_str rfl (by decide) rfl) (da_nil) rfl) rfl) (by decide) rfl rfl rfl) (fun _ => rfl))))))) (ds_cons (ds_ret (de_bl)) (ds_nil)) (ds_nil)) (ds_cons (ds_if (de_cmpT (opd_eq (hr).u) (de_ix2 (hr).u (de_var (i := 1) rfl (.inl rfl) rfl rfl) (de_int) (fun _ _ => rfl)) (de_str) rfl) (ds_cons (ds_ret (de_cal (ps := ["value", "many"]) C_is_below (hr).low rfl (da_cons (de_ix2 (hr).u (de_var (i := 1) rfl (.inl rfl) rfl rfl) (de_int) (fun _ _ => rfl)) (da_cons (de_var (i := 0) rfl (.inr (.inl rfl)) rfl rfl) (da_nil) rfl) rfl) rfl rfl rfl)) (ds_nil)) (ds_nil)) (ds_cons (ds_if (PW.pt (dt_or (de_cmpT (opd_ne (hr).u) (de_ix2 (hr).u (de_var (i := 1) rfl (.inl rfl) rfl rfl) (de_int) (fun _ _ => rfl)) (de_str) rfl) (dt_or (dt_not (de_tru (de_callB cl_isi2 rfl G.n_isinstance rfl (da_cons (de_ix2 (hr).u (de_var (i := 1) rfl (.inl rfl) rfl rfl) (de_int) (fun _ _ => rfl)) (da_cons (de_ty rfl G.n_tuple rfl (by decide) rfl) (da_nil) rfl) rfl) (by decide) rfl rfl rfl) (fun _ => rfl))) (dt_or1 (de_cmpT (opd_eq (hr).u) (de_callB cl_len2 rfl G.n_len rfl (da_cons (de_ix2 (hr).u (de_var (i := 1) rfl (.inl rfl) rfl rfl) (de_int) (fun _ _ => rfl)) (da_nil) rfl) (by decide) rfl rfl rfl) (de_int) rfl))))) (ds_cons (ds_ret (de_bl)) (ds_nil)) (ds_nil)) (ds_cons (ds_ret (de_and (de_gx (stop := false) (own := ["letter"]) (capn := ["k"]) (caps := [0]) rfl hr rfl rfl G.n_all TB hP rfl (gxOk_by rfl) (di_val (de_ix2 (hr).u (de_var (i := 1) rfl (.inl rfl) rfl rfl) (de_int) (fun _ _ => rfl))) (fun _ => rfl) (by decide) (fun s H C cl code bi A fp pn => dg_name (i := 0) (nd rfl) rfl (.inl rfl) (.inr rfl)) (fun s H C cl code bi A fp pn hr' => de_cal (ps := ["value", "many"]) C_is_below hr' rfl (da_cons (de_var (i := 0) rfl (.inl rfl) rfl rfl) (da_cons (de_var (i := 1) rfl (.inr (.inr rfl)) rfl rfl) (da_nil) rfl) rfl) rfl rfl rfl) rfl) (de_one (de_cal (ps := ["some"]) C_is_ascending (hr).low rfl (da_cons (de_ix2 (hr).u (de_var (i := 1) rfl (.inl rfl) rfl rfl) (de_int) (fun _ _ => rfl)) (da_nil) rfl) rfl rfl rfl)))) (ds_nil))))
theorem sc_are_atoms : FnScope ["k", "told"] ["k", "told"] (defScope s_are_atoms) := ⟨rfl, rfl, rfl, by decide +kernel, rfl, by decide +kernel, by decide +kernel⟩
def r_are_atoms (sp_is_atom : DSp) : DS := rSeq (rRet (rAndV (rArg bIsi2 (rCons (rVar 1) (rCons (rCst (.ty "tuple")) (rNil)))) (rAG false 1 [0] (rItV (rVar 1)) (rgName 0) (rCall sp_is_atom 2 (rCons (rVar 1) (rCons (rVar 0) (rNil))))))) (rNext)
theorem w_are_atoms {P : Program} {w : World} {K : PySem.W.Frag} {T : List Addr} {mg : Str → Option Value} {base : Heap} {k : Nat} {A : Around} {outer : List Env} {s : Shared} {H : Hp} {E : XK} {ex : EK} {c Pt fA : Addr} {sp_is_atom : DSp}
    (hr : RoomG (k + 1) (A.deeper (envOfC "are_atoms" (defScope s_are_atoms) s.heap.objs.size fA (.ref c)))) (G : Gm mg) (C_is_atom : Cal ⟨P, w, K, T⟩ mg base k "is_atom" ["k", "told"] sp_is_atom) (TB : GxR.TabB base mg c Pt) (hP : Pt ∈ T) :
    SsP' (bx P w K mg base ["k", "told"] "are_atoms" (defScope s_are_atoms) fA (.ref c) A outer s H E) T ex (defBody s_are_atoms) (r_are_atoms sp_is_atom) := by
  unfold r_are_atoms
  exact ds_cons (ds_ret (de_and (de_callB cl_isi2 rfl G.n_isinstance rfl (da_cons (de_var (i := 1) rfl (.inl rfl) rfl rfl) (da_cons (de_ty rfl G.n_tuple rfl (by decide) rfl) (da_nil) rfl) rfl) (by decide) rfl rfl rfl) (de_one (de_gx (stop := false) (own := ["atom"]) (capn := ["k"]) (caps := [0]) rfl hr rfl rfl G.n_all TB hP rfl (gxOk_by rfl) (di_val (de_var (i := 1) rfl (.inl rfl) rfl rfl)) (fun _ => rfl) (by decide) (fun s H C cl code bi A fp pn => dg_name (i := 0) (nd rfl) rfl (.inl rfl) (.inr rfl)) (fun s H C cl code bi A fp pn hr' => de_cal (ps := ["k", "told"]) C_is_atom hr' rfl (da_cons (de_var (i := 1) rfl (.inr (.inr rfl)) rfl rfl) (da_cons (de_var (i := 0) rfl (.inl rfl) rfl rfl) (da_nil) rfl) rfl) rfl rfl rfl) rfl)))) (ds_nil)
theorem sc_fits : FnScope ["atom", "other"] ["atom", "other"] (defScope s_fits) := ⟨rfl, rfl, rfl, by decide +kernel, rfl, by decide +kernel, by decide +kernel⟩
def r_fits : DS := rSeq (rIfS (rTB (rBin (oEq false) (rBin oIx2 (rVar 1) (rCst (.int 0))) (rCst (.str "one")))) (rSeq (rRet (rBin (oEq false) (rVar 0) (rVar 1))) (rNext)) (rNext)) (rSeq (rRet (rAG false 1 [1] (rItV (rIf (rTB (rBin (oEq false) (rBin oIx2 (rVar 0) (rCst (.int 0))) (rCst (.str "one")))) (rCut (rVar 0) (rPart (rCst (.int 1))) (rNoP)) (rBin oIx2 (rVar 0) (rCst (.int 1))))) (rgName 0) (rBin (oIn2 false) (rVar 0) (rBin oIx2 (rVar 1) (rCst (.int 1)))))) (rNext))
theorem w_fits {P : Program} {w : World} {K : PySem.W.Frag} {T : List Addr} {mg : Str → Option Value} {base : Heap} {k : Nat} {A : Around} {outer : List Env} {s : Shared} {H : Hp} {E : XK} {ex : EK} {c Pt fA : Addr}
    (hr : RoomG (k + 1) (A.deeper (envOfC "fits" (defScope s_fits) s.heap.objs.size fA (.ref c)))) (G : Gm mg) (TB : GxR.TabB base mg c Pt) (hP : Pt ∈ T) :
    SsP' (bx P w K mg base ["atom", "other"] "fits" (defScope s_fits) fA (.ref c) A outer s H E) T ex (defBody s_fits) (r_fits) := by
  unfold r_fits
  exact ds_cons (ds_if (de_cmpT (opd_eq (hr).u) (de_ix2 (hr).u (de_var (i := 1) rfl (.inr (.inl rfl)) rfl rfl) (de_int) (fun _ _ => rfl)) (de_str) rfl) (ds_cons (ds_ret (de_cmp (opd_eq (hr).u) (de_var (i := 0) rfl (.inl rfl) rfl rfl) (de_var (i := 1) rfl (.inr (.inl rfl)) rfl rfl) rfl)) (ds_nil)) (ds_nil)) (ds_cons (ds_ret (de_gx (stop := false) (own := ["letter"]) (capn := ["other"]) (caps := [1]) rfl hr rfl rfl G.n_all TB hP rfl (gxOk_by rfl) (di_val (de_if (de_cmpT (opd_eq (hr).u) (de_ix2 (hr).u (de_var (i := 0) rfl (.inl rfl) rfl rfl) (de_int) (fun _ _ => rfl)) (de_str) rfl) (de_cut (de_var (i := 0) rfl (.inl rfl) rfl rfl) (do_some (de_int)) (do_none)) (de_ix2 (hr).u (de_var (i := 0) rfl (.inl rfl) rfl rfl) (de_int) (fun _ _ => rfl)))) (fun _ => rfl) (by decide) (fun s H C cl code bi A fp pn => dg_name (i := 0) (nd rfl) rfl (.inl rfl) (.inr rfl)) (fun s H C cl code bi A fp pn hr' => de_cmp (opd_in (hr').u false) (de_var (i := 0) rfl (.inl rfl) rfl rfl) (de_ix2 (hr').u (de_var (i := 1) rfl (.inr (.inr rfl)) rfl rfl) (de_int) (fun _ _ => rfl)) rfl) rfl)) (ds_nil))
theorem sc_takes_up : FnScope ["star", "atom"] ["star", "atom"] (defScope s_takes_up) := ⟨rfl, rfl, rfl, by decide +kernel, rfl, by decide +kernel, by decide +kernel⟩
def r_takes_up (sp_fits : DSp) : DS := rSeq (rRet (rAndV (rBin (oEq false) (rBin oIx2 (rVar 0) (rCst (.int 0))) (rCst (.str "any"))) (rCall sp_fits 2 (rCons (rVar 1) (rCons (rVar 0) (rNil)))))) (rNext)
theorem w_takes_up {P : Program} {w : World} {K : PySem.W.Frag} {T : List Addr} {mg : Str → Option Value} {base : Heap} {k : Nat} {A : Around} {outer : List Env} {s : Shared} {H : Hp} {E : XK} {ex : EK} {c Pt fA : Addr} {sp_fits : DSp}
    (hr : RoomG (k + 0) (A.deeper (envOfC "takes_up" (defScope s_takes_up) s.heap.objs.size fA (.ref c)))) (G : Gm mg) (C_fits : Cal ⟨P, w, K, T⟩ mg base k "fits" ["atom", "other"] sp_fits) :
    SsP' (bx P w K mg base ["star", "atom"] "takes_up" (defScope s_takes_up) fA (.ref c) A outer s H E) T ex (defBody s_takes_up) (r_takes_up sp_fits) := by
  unfold r_takes_up
  exact ds_cons (ds_ret (de_and (de_cmp (opd_eq (hr).u) (de_ix2 (hr).u (de_var (i := 0) rfl (.inl rfl) rfl rfl) (de_int) (fun _ _ => rfl)) (de_str) rfl) (de_one (de_cal (ps := ["atom", "other"]) C_fits hr rfl (da_cons (de_var (i := 1) rfl (.inl rfl) rfl rfl) (da_cons (de_var (i := 0) rfl (.inl rfl) rfl rfl) (da_nil) rfl) rfl) rfl rfl rfl)))) (ds_nil)
theorem sc_put_behind : FnScope ["atoms", "atom"] ["atoms", "atom"] (defScope s_put_behind) := ⟨rfl, rfl, rfl, by decide +kernel, rfl, by decide +kernel, by decide +kernel⟩
def r_put_behind (sp_takes_up : DSp) : DS := rSeq (rIfS (rAnd (rTB (rBin oGt (rArg bLen2 (rCons (rVar 0) (rNil))) (rCst (.int 0)))) (rTru (rCall sp_takes_up 2 (rCons (rBin oIx2 (rVar 0) (rUn oNeg (rCst (.int 1)))) (rCons (rVar 1) (rNil)))))) (rSeq (rRet (rVar 0)) (rNext)) (rNext)) (rSeq (rWhile (rAnd (rTB (rBin oGt (rArg bLen2 (rCons (rVar 0) (rNil))) (rCst (.int 0)))) (rTru (rCall sp_takes_up 2 (rCons (rVar 1) (rCons (rBin oIx2 (rVar 0) (rUn oNeg (rCst (.int 1)))) (rNil)))))) (rSeq (rAsg (rCut (rVar 0) (rNoP) (rPart (rUn oNeg (rCst (.int 1))))) (rgName 0)) (rNext))) (rSeq (rRet (rBin oAdd (rVar 0) (rTup (rCons (rVar 1) (rNil))))) (rNext)))
theorem w_put_behind {P : Program} {w : World} {K : PySem.W.Frag} {T : List Addr} {mg : Str → Option Value} {base : Heap} {k : Nat} {A : Around} {outer : List Env} {s : Shared} {H : Hp} {E : XK} {ex : EK} {c Pt fA : Addr} {sp_takes_up : DSp}
    (hr : RoomG (k + 0) (A.deeper (envOfC "put_behind" (defScope s_put_behind) s.heap.objs.size fA (.ref c)))) (G : Gm mg) (C_takes_up : Cal ⟨P, w, K, T⟩ mg base k "takes_up" ["star", "atom"] sp_takes_up) :
    SsP' (bx P w K mg base ["atoms", "atom"] "put_behind" (defScope s_put_behind) fA (.ref c) A outer s H E) T ex (defBody s_put_behind) (r_put_behind sp_takes_up) := by
  unfold r_put_behind
  exact ds_cons (ds_if (PW.pt (dt_and (de_cmpT opd_gt (de_callB cl_len2 rfl G.n_len rfl (da_cons (de_var (i := 0) rfl (.inl rfl) rfl rfl) (da_nil) rfl) (by decide) rfl rfl rfl) (de_int) rfl) (dt_and1 (de_tru (de_cal (ps := ["star", "atom"]) C_takes_up hr rfl (da_cons (de_ix2 (hr).u (de_var (i := 0) rfl (.inl rfl) rfl rfl) (de_un opd_neg (de_int)) (fun _ _ => rfl)) (da_cons (de_var (i := 1) rfl (.inl rfl) rfl rfl) (da_nil) rfl) rfl) rfl rfl rfl) (fun _ => rfl))))) (ds_cons (ds_ret (de_var (i := 0) rfl (.inl rfl) rfl rfl)) (ds_nil)) (ds_nil)) (ds_cons (ds_while (never rfl) (PW.pt (dt_and (de_cmpT opd_gt (de_callB cl_len2 rfl G.n_len rfl (da_cons (de_var (i := 0) rfl (.inl rfl) rfl rfl) (da_nil) rfl) (by decide) rfl rfl rfl) (de_int) rfl) (dt_and1 (de_tru (de_cal (ps := ["star", "atom"]) C_takes_up hr rfl (da_cons (de_var (i := 1) rfl (.inl rfl) rfl rfl) (da_cons (de_ix2 (hr).u (de_var (i := 0) rfl (.inl rfl) rfl rfl) (de_un opd_neg (de_int)) (fun _ _ => rfl)) (da_nil) rfl) rfl) rfl rfl rfl) (fun _ => rfl))))) (ds_cons (ds_set (i := 0) (nd rfl) rfl (.inl rfl) (de_cut (de_var (i := 0) rfl (.inl rfl) rfl rfl) (do_none) (do_some (de_un opd_neg (de_int)))) rfl (.inl rfl)) (ds_nil))) (ds_cons (ds_ret (de_bin opd_add (de_var (i := 0) rfl (.inl rfl) rfl rfl) (de_tup (da_cons (de_var (i := 1) rfl (.inl rfl) rfl rfl) (da_nil) rfl)))) (ds_nil)))
theorem sc_reduced_in : FnScope ["atoms", "found", "atom"] ["atoms"] (defScope s_reduced_in) := ⟨rfl, rfl, rfl, by decide +kernel, rfl, by decide +kernel, by decide +kernel⟩
def r_reduced_in (sp_put_behind : DSp) : DS := rSeq (rAsg (rTup (rNil)) (rgName 1)) (rSeq (rFor (rItV (rVar 0)) (rgName 2) (rSeq (rAsg (rCall sp_put_behind 2 (rCons (rVar 1) (rCons (rVar 2) (rNil)))) (rgName 1)) (rNext))) (rSeq (rRet (rVar 1)) (rNext)))
theorem w_reduced_in {P : Program} {w : World} {K : PySem.W.Frag} {T : List Addr} {mg : Str → Option Value} {base : Heap} {k : Nat} {A : Around} {outer : List Env} {s : Shared} {H : Hp} {E : XK} {ex : EK} {c Pt fA : Addr} {sp_put_behind : DSp}
    (hr : RoomG (k + 0) (A.deeper (envOfC "reduced_in" (defScope s_reduced_in) s.heap.objs.size fA (.ref c)))) (G : Gm mg) (C_put_behind : Cal ⟨P, w, K, T⟩ mg base k "put_behind" ["atoms", "atom"] sp_put_behind) :
    SsP' (bx P w K mg base ["atoms", "found", "atom"] "reduced_in" (defScope s_reduced_in) fA (.ref c) A outer s H E) T ex (defBody s_reduced_in) (r_reduced_in sp_put_behind) := by
  unfold r_reduced_in
  exact ds_cons (ds_set (i := 1) (nd rfl) rfl (.inl rfl) (de_tup (da_nil)) rfl (.inl rfl)) (ds_cons (ds_for (never rfl) rfl (di_val (de_var (i := 0) rfl (.inl rfl) rfl rfl)) (dg_name (i := 2) (nd rfl) rfl (.inl rfl) (.inl rfl)) (ds_cons (ds_set (i := 1) (nd rfl) rfl (.inl rfl) (de_cal (ps := ["atoms", "atom"]) C_put_behind hr rfl (da_cons (de_var (i := 1) rfl (.inl rfl) rfl rfl) (da_cons (de_var (i := 2) rfl (.inl rfl) rfl rfl) (da_nil) rfl) rfl) rfl rfl rfl) rfl (.inl rfl)) (ds_nil)) (fun _ => rfl)) (ds_cons (ds_ret (de_var (i := 1) rfl (.inl rfl) rfl rfl)) (ds_nil)))
theorem sc_rest_behind : FnScope ["product", "at", "letter"] ["product", "at", "letter"] (defScope s_rest_behind) := ⟨rfl, rfl, rfl, by decide +kernel, rfl, by decide +kernel, by decide +kernel⟩
def r_rest_behind (sp_fits : DSp) : DS := rSeq (rWhile (rTB (rBin oLt2 (rVar 1) (rArg bLen2 (rCons (rVar 0) (rNil))))) (rSeq (rIfS (rTru (rCall sp_fits 2 (rCons (rTup (rCons (rCst (.str "one")) (rCons (rVar 2) (rNil)))) (rCons (rBin oIx2 (rVar 0) (rVar 1)) (rNil))))) (rSeq (rRet (rIf (rTB (rBin (oEq false) (rBin oIx2 (rBin oIx2 (rVar 0) (rVar 1)) (rCst (.int 0))) (rCst (.str "one")))) (rBin oAdd (rVar 1) (rCst (.int 1))) (rVar 1))) (rNext)) (rNext)) (rSeq (rAug 1 oAddI (rCst (.int 1))) (rNext)))) (rSeq (rRet (rCst .non)) (rNext))
theorem w_rest_behind {P : Program} {w : World} {K : PySem.W.Frag} {T : List Addr} {mg : Str → Option Value} {base : Heap} {k : Nat} {A : Around} {outer : List Env} {s : Shared} {H : Hp} {E : XK} {ex : EK} {c Pt fA : Addr} {sp_fits : DSp}
    (hr : RoomG (k + 0) (A.deeper (envOfC "rest_behind" (defScope s_rest_behind) s.heap.objs.size fA (.ref c)))) (G : Gm mg) (C_fits : Cal ⟨P, w, K, T⟩ mg base k "fits" ["atom", "other"] sp_fits) :
    SsP' (bx P w K mg base ["product", "at", "letter"] "rest_behind" (defScope s_rest_behind) fA (.ref c) A outer s H E) T ex (defBody s_rest_behind) (r_rest_behind sp_fits) := by
  unfold r_rest_behind
  exact ds_cons (ds_while (never rfl) (de_cmpT (opd_lt2 (hr).u) (de_var (i := 1) rfl (.inl rfl) rfl rfl) (de_callB cl_len2 rfl G.n_len rfl (da_cons (de_var (i := 0) rfl (.inl rfl) rfl rfl) (da_nil) rfl) (by decide) rfl rfl rfl) rfl) (ds_cons (ds_if (de_tru (de_cal (ps := ["atom", "other"]) C_fits hr rfl (da_cons (de_tup (da_cons (de_str) (da_cons (de_var (i := 2) rfl (.inl rfl) rfl rfl) (da_nil) rfl) rfl)) (da_cons (de_ix2 (hr).u (de_var (i := 0) rfl (.inl rfl) rfl rfl) (de_var (i := 1) rfl (.inl rfl) rfl rfl) (fun _ _ => rfl)) (da_nil) rfl) rfl) rfl rfl rfl) (fun _ => rfl)) (ds_cons (ds_ret (de_if (de_cmpT (opd_eq (hr).u) (de_ix2 (hr).u (de_ix2 (hr).u (de_var (i := 0) rfl (.inl rfl) rfl rfl) (de_var (i := 1) rfl (.inl rfl) rfl rfl) (fun _ _ => rfl)) (de_int) (fun _ _ => rfl)) (de_str) rfl) (de_bin opd_add (de_var (i := 1) rfl (.inl rfl) rfl rfl) (de_int)) (de_var (i := 1) rfl (.inl rfl) rfl rfl))) (ds_nil)) (ds_nil)) (ds_cons (ds_aug (i := 1) (nd rfl) rfl (.inl rfl) (de_int) ipd_add (.inl rfl)) (ds_nil)))) (ds_cons (ds_ret (de_non)) (ds_nil))
theorem sc_product_has_in : FnScope ["product", "word", "at", "letter"] ["product", "word"] (defScope s_product_has_in) := ⟨rfl, rfl, rfl, by decide +kernel, rfl, by decide +kernel, by decide +kernel⟩
def r_product_has_in (sp_rest_behind : DSp) : DS := rSeq (rAsg (rCst (.int 0)) (rgName 2)) (rSeq (rFor (rItV (rVar 1)) (rgName 3) (rSeq (rAsg (rCall sp_rest_behind 3 (rCons (rVar 0) (rCons (rVar 2) (rCons (rVar 3) (rNil))))) (rgName 2)) (rSeq (rIfS (rTB (rBin (oIs false) (rVar 2) (rCst .non))) (rSeq (rRet (rCst (.bl false))) (rNext)) (rNext)) (rNext)))) (rSeq (rRet (rCst (.bl true))) (rNext)))
theorem w_product_has_in {P : Program} {w : World} {K : PySem.W.Frag} {T : List Addr} {mg : Str → Option Value} {base : Heap} {k : Nat} {A : Around} {outer : List Env} {s : Shared} {H : Hp} {E : XK} {ex : EK} {c Pt fA : Addr} {sp_rest_behind : DSp}
    (hr : RoomG (k + 0) (A.deeper (envOfC "product_has_in" (defScope s_product_has_in) s.heap.objs.size fA (.ref c)))) (G : Gm mg) (C_rest_behind : Cal ⟨P, w, K, T⟩ mg base k "rest_behind" ["product", "at", "letter"] sp_rest_behind) :
    SsP' (bx P w K mg base ["product", "word", "at", "letter"] "product_has_in" (defScope s_product_has_in) fA (.ref c) A outer s H E) T ex (defBody s_product_has_in) (r_product_has_in sp_rest_behind) := by
  unfold r_product_has_in
  exact ds_cons (ds_set (i := 2) (nd rfl) rfl (.inl rfl) (de_int) rfl (.inl rfl)) (ds_cons (ds_for (never rfl) rfl (di_val (de_var (i := 1) rfl (.inl rfl) rfl rfl)) (dg_name (i := 3) (nd rfl) rfl (.inl rfl) (.inl rfl)) (ds_cons (ds_set (i := 2) (nd rfl) rfl (.inl rfl) (de_cal (ps := ["product", "at", "letter"]) C_rest_behind hr rfl (da_cons (de_var (i := 0) rfl (.inl rfl) rfl rfl) (da_cons (de_var (i := 2) rfl (.inl rfl) rfl rfl) (da_cons (de_var (i := 3) rfl (.inl rfl) rfl rfl) (da_nil) rfl) rfl) rfl) rfl rfl rfl) rfl (.inl rfl)) (ds_cons (ds_if (de_cmpT opd_is (de_var (i := 2) rfl (.inl rfl) rfl rfl) (de_non) rfl) (ds_cons (ds_ret (de_bl)) (ds_nil)) (ds_nil)) (ds_nil))) (fun _ => rfl)) (ds_cons (ds_ret (de_bl)) (ds_nil)))
theorem sc_is_product_of : FnScope ["k", "told"] ["k", "told"] (defScope s_is_product_of) := ⟨rfl, rfl, rfl, by decide +kernel, rfl, by decide +kernel, by decide +kernel⟩
def r_is_product_of (sp_are_atoms sp_reduced_in : DSp) : DS := rSeq (rRet (rAndV (rCall sp_are_atoms 2 (rCons (rVar 0) (rCons (rVar 1) (rNil)))) (rBin (oEq false) (rCall sp_reduced_in 1 (rCons (rVar 1) (rNil))) (rVar 1)))) (rNext)
theorem w_is_product_of {P : Program} {w : World} {K : PySem.W.Frag} {T : List Addr} {mg : Str → Option Value} {base : Heap} {k : Nat} {A : Around} {outer : List Env} {s : Shared} {H : Hp} {E : XK} {ex : EK} {c Pt fA : Addr} {sp_are_atoms sp_reduced_in : DSp}
    (hr : RoomG (k + 0) (A.deeper (envOfC "is_product_of" (defScope s_is_product_of) s.heap.objs.size fA (.ref c)))) (G : Gm mg) (C_are_atoms : Cal ⟨P, w, K, T⟩ mg base k "are_atoms" ["k", "told"] sp_are_atoms) (C_reduced_in : Cal ⟨P, w, K, T⟩ mg base k "reduced_in" ["atoms"] sp_reduced_in) :
    SsP' (bx P w K mg base ["k", "told"] "is_product_of" (defScope s_is_product_of) fA (.ref c) A outer s H E) T ex (defBody s_is_product_of) (r_is_product_of sp_are_atoms sp_reduced_in) := by
  unfold r_is_product_of
  exact ds_cons (ds_ret (de_and (de_cal (ps := ["k", "told"]) C_are_atoms hr rfl (da_cons (de_var (i := 0) rfl (.inl rfl) rfl rfl) (da_cons (de_var (i := 1) rfl (.inl rfl) rfl rfl) (da_nil) rfl) rfl) rfl rfl rfl) (de_one (de_cmp (opd_eq (hr).u) (de_cal (ps := ["atoms"]) C_reduced_in hr rfl (da_cons (de_var (i := 1) rfl (.inl rfl) rfl rfl) (da_nil) rfl) rfl rfl rfl) (de_var (i := 1) rfl (.inl rfl) rfl rfl) rfl)))) (ds_nil)
theorem sc_check_product : FnScope ["k", "product"] ["k", "product"] (defScope s_check_product) := ⟨rfl, rfl, rfl, by decide +kernel, rfl, by decide +kernel, by decide +kernel⟩
def r_check_product (sp_is_product_of : DSp) : DS := rSeq (rIfS (rNot (rTru (rCall sp_is_product_of 2 (rCons (rVar 0) (rCons (rVar 1) (rNil)))))) (rSeq (rNever) (rNext)) (rNext)) (rNext)
theorem w_check_product {P : Program} {w : World} {K : PySem.W.Frag} {T : List Addr} {mg : Str → Option Value} {base : Heap} {k : Nat} {A : Around} {outer : List Env} {s : Shared} {H : Hp} {E : XK} {ex : EK} {c Pt fA : Addr} {sp_is_product_of : DSp}
    (hr : RoomG (k + 0) (A.deeper (envOfC "check_product" (defScope s_check_product) s.heap.objs.size fA (.ref c)))) (G : Gm mg) (C_is_product_of : Cal ⟨P, w, K, T⟩ mg base k "is_product_of" ["k", "told"] sp_is_product_of) :
    SsP' (bx P w K mg base ["k", "product"] "check_product" (defScope s_check_product) fA (.ref c) A outer s H E) T ex (defBody s_check_product) (r_check_product sp_is_product_of) := by
  unfold r_check_product
  exact ds_cons (ds_if (dt_not (de_tru (de_cal (ps := ["k", "told"]) C_is_product_of hr rfl (da_cons (de_var (i := 0) rfl (.inl rfl) rfl rfl) (da_cons (de_var (i := 1) rfl (.inl rfl) rfl rfl) (da_nil) rfl) rfl) rfl rfl rfl) (fun _ => rfl))) (ds_cons (ds_never) (ds_nil)) (ds_nil)) (ds_nil)
theorem sc_reduced : FnScope ["k", "atoms"] ["k", "atoms"] (defScope s_reduced) := ⟨rfl, rfl, rfl, by decide +kernel, rfl, by decide +kernel, by decide +kernel⟩
def r_reduced (sp_check_k sp_are_atoms sp_reduced_in : DSp) : DS := rSeq (rDrop (rCall sp_check_k 1 (rCons (rVar 0) (rNil)))) (rSeq (rIfS (rNot (rTru (rCall sp_are_atoms 2 (rCons (rVar 0) (rCons (rVar 1) (rNil)))))) (rSeq (rNever) (rNext)) (rNext)) (rSeq (rRet (rCall sp_reduced_in 1 (rCons (rVar 1) (rNil)))) (rNext)))
theorem w_reduced {P : Program} {w : World} {K : PySem.W.Frag} {T : List Addr} {mg : Str → Option Value} {base : Heap} {k : Nat} {A : Around} {outer : List Env} {s : Shared} {H : Hp} {E : XK} {ex : EK} {c Pt fA : Addr} {sp_check_k sp_are_atoms sp_reduced_in : DSp}
    (hr : RoomG (k + 0) (A.deeper (envOfC "reduced" (defScope s_reduced) s.heap.objs.size fA (.ref c)))) (G : Gm mg) (C_check_k : Cal ⟨P, w, K, T⟩ mg base k "check_k" ["k"] sp_check_k) (C_are_atoms : Cal ⟨P, w, K, T⟩ mg base k "are_atoms" ["k", "told"] sp_are_atoms) (C_reduced_in : Cal ⟨P, w, K, T⟩ mg base k "reduced_in" ["atoms"] sp_reduced_in) :
    SsP' (bx P w K mg base ["k", "atoms"] "reduced" (defScope s_reduced) fA (.ref c) A outer s H E) T ex (defBody s_reduced) (r_reduced sp_check_k sp_are_atoms sp_reduced_in) := by
  unfold r_reduced
  exact ds_cons (ds_drop (de_cal (ps := ["k"]) C_check_k hr rfl (da_cons (de_var (i := 0) rfl (.inl rfl) rfl rfl) (da_nil) rfl) rfl rfl rfl) rfl) (ds_cons (ds_if (dt_not (de_tru (de_cal (ps := ["k", "told"]) C_are_atoms hr rfl (da_cons (de_var (i := 0) rfl (.inl rfl) rfl rfl) (da_cons (de_var (i := 1) rfl (.inl rfl) rfl rfl) (da_nil) rfl) rfl) rfl rfl rfl) (fun _ => rfl))) (ds_cons (ds_never) (ds_nil)) (ds_nil)) (ds_cons (ds_ret (de_cal (ps := ["atoms"]) C_reduced_in hr rfl (da_cons (de_var (i := 1) rfl (.inl rfl) rfl rfl) (da_nil) rfl) rfl rfl rfl)) (ds_nil)))
theorem sc_product_has : FnScope ["product", "word"] ["product", "word"] (defScope s_product_has) := ⟨rfl, rfl, rfl, by decide +kernel, rfl, by decide +kernel, by decide +kernel⟩
def r_product_has (sp_check_product sp_check_word sp_product_has_in : DSp) : DS := rSeq (rDrop (rCall sp_check_product 2 (rCons (rCst (.int 3)) (rCons (rVar 0) (rNil))))) (rSeq (rDrop (rCall sp_check_word 2 (rCons (rCst (.int 3)) (rCons (rVar 1) (rNil))))) (rSeq (rRet (rCall sp_product_has_in 2 (rCons (rVar 0) (rCons (rVar 1) (rNil))))) (rNext)))
theorem w_product_has {P : Program} {w : World} {K : PySem.W.Frag} {T : List Addr} {mg : Str → Option Value} {base : Heap} {k : Nat} {A : Around} {outer : List Env} {s : Shared} {H : Hp} {E : XK} {ex : EK} {c Pt fA : Addr} {sp_check_product sp_check_word sp_product_has_in : DSp}
    (hr : RoomG (k + 0) (A.deeper (envOfC "product_has" (defScope s_product_has) s.heap.objs.size fA (.ref c)))) (G : Gm mg) (C_check_product : Cal ⟨P, w, K, T⟩ mg base k "check_product" ["k", "product"] sp_check_product) (C_check_word : Cal ⟨P, w, K, T⟩ mg base k "check_word" ["k", "word"] sp_check_word) (C_product_has_in : Cal ⟨P, w, K, T⟩ mg base k "product_has_in" ["product", "word"] sp_product_has_in) :
    SsP' (bx P w K mg base ["product", "word"] "product_has" (defScope s_product_has) fA (.ref c) A outer s H E) T ex (defBody s_product_has) (r_product_has sp_check_product sp_check_word sp_product_has_in) := by
  unfold r_product_has
  exact ds_cons (ds_drop (de_cal (ps := ["k", "product"]) C_check_product hr rfl (da_cons (de_gint rfl G.c_MOST_LETTERS rfl) (da_cons (de_var (i := 0) rfl (.inl rfl) rfl rfl) (da_nil) rfl) rfl) rfl rfl rfl) rfl) (ds_cons (ds_drop (de_cal (ps := ["k", "word"]) C_check_word hr rfl (da_cons (de_gint rfl G.c_MOST_LETTERS rfl) (da_cons (de_var (i := 1) rfl (.inl rfl) rfl rfl) (da_nil) rfl) rfl) rfl rfl rfl) rfl) (ds_cons (ds_ret (de_cal (ps := ["product", "word"]) C_product_has_in hr rfl (da_cons (de_var (i := 0) rfl (.inl rfl) rfl rfl) (da_cons (de_var (i := 1) rfl (.inl rfl) rfl rfl) (da_nil) rfl) rfl) rfl rfl rfl)) (ds_nil)))
theorem sc__law_well : FnScope ["script", "at", "mixed", "cell", "digits"] ["script", "at"] (defScope s__law_well) := ⟨rfl, rfl, rfl, by decide +kernel, rfl, by decide +kernel, by decide +kernel⟩
def r__law_well : DS := rSeq (rAsg (rBin oAdd (rCst (.int 7)) (rArg bLen2 (rCons (rCut (rVar 0) (rNoP) (rPart (rCst (.int 63)))) (rNil)))) (rgName 2)) (rSeq (rFor (rItV (rCut (rVar 0) (rNoP) (rPart (rCst (.int 63))))) (rgName 3) (rSeq (rAsg (rBin oMod (rArg bInt (rCons (rBin oAdd (rBin oAdd (rBin oMul2 (rVar 2) (rCst (.int 1103515245))) (rBin oMod (rArg bInt (rCons (rVar 3) (rNil))) (rBin oAdd (rBin oPow (rCst (.int 10)) (rCst (.int 24))) (rCst (.int 7))))) (rCst (.int 5))) (rNil))) (rBin oAdd (rBin oPow (rCst (.int 10)) (rCst (.int 28))) (rCst (.int 331)))) (rgName 2)) (rNext))) (rSeq (rAsg (rBin oMod (rArg bInt (rCons (rBin oAdd (rBin oAdd (rBin oMul2 (rVar 2) (rCst (.int 131))) (rBin oMul2 (rVar 1) (rCst (.int 104729)))) (rCst (.int 29))) (rNil))) (rBin oAdd (rBin oPow (rCst (.int 10)) (rCst (.int 28))) (rCst (.int 331)))) (rgName 2)) (rSeq (rAsg (rCst (.int 0)) (rgName 4)) (rSeq (rIfS (rTB (rBin oLt2 (rVar 1) (rArg bLen2 (rCons (rVar 0) (rNil))))) (rSeq (rAsg (rArg bMax2 (rCons (rCst (.int 0)) (rCons (rBin oSub (rArg bAbs (rCons (rArg bInt (rCons (rBin oIx2 (rVar 0) (rVar 1)) (rNil))) (rNil))) (rBin oPow (rCst (.int 10)) (rCst (.int 18)))) (rNil)))) (rgName 4)) (rNext)) (rNext)) (rSeq (rRet (rLst (rCons (rVar 4) (rCons (rVar 2) (rNil))))) (rNext))))))
theorem w__law_well {P : Program} {w : World} {K : PySem.W.Frag} {T : List Addr} {mg : Str → Option Value} {base : Heap} {k : Nat} {A : Around} {outer : List Env} {s : Shared} {H : Hp} {E : XK} {ex : EK} {c Pt fA : Addr}
    (hr : RoomG (k + 0) (A.deeper (envOfC "_law_well" (defScope s__law_well) s.heap.objs.size fA (.ref c)))) (G : Gm mg) :
    SsP' (bx P w K mg base ["script", "at", "mixed", "cell", "digits"] "_law_well" (defScope s__law_well) fA (.ref c) A outer s H E) T ex (defBody s__law_well) (r__law_well) := by
  unfold r__law_well
  exact ds_cons (ds_set (i := 2) (nd rfl) rfl (.inl rfl) (de_bin opd_add (de_int) (de_callB cl_len2 rfl G.n_len rfl (da_cons (de_cut (de_var (i := 0) rfl (.inl rfl) rfl rfl) (do_none) (do_some (de_int))) (da_nil) rfl) (by decide) rfl rfl rfl)) rfl (.inl rfl)) (ds_cons (ds_for (never rfl) rfl (di_val (de_cut (de_var (i := 0) rfl (.inl rfl) rfl rfl) (do_none) (do_some (de_int)))) (dg_name (i := 3) (nd rfl) rfl (.inl rfl) (.inl rfl)) (ds_cons (ds_set (i := 2) (nd rfl) rfl (.inl rfl) (de_bin opd_mod (de_callTy cl_int rfl G.n_int rfl (da_cons (de_bin opd_add (de_bin opd_add (de_bin opd_mul2 (de_var (i := 2) rfl (.inl rfl) rfl rfl) (de_int)) (de_bin opd_mod (de_callTy cl_int rfl G.n_int rfl (da_cons (de_var (i := 3) rfl (.inl rfl) rfl rfl) (da_nil) rfl) (by decide) rfl rfl rfl) (de_bin opd_add (de_bin opd_pow (de_int) (de_int)) (de_int)))) (de_int)) (da_nil) rfl) (by decide) rfl rfl rfl) (de_bin opd_add (de_bin opd_pow (de_int) (de_int)) (de_int))) rfl (.inl rfl)) (ds_nil)) (fun _ => rfl)) (ds_cons (ds_set (i := 2) (nd rfl) rfl (.inl rfl) (de_bin opd_mod (de_callTy cl_int rfl G.n_int rfl (da_cons (de_bin opd_add (de_bin opd_add (de_bin opd_mul2 (de_var (i := 2) rfl (.inl rfl) rfl rfl) (de_int)) (de_bin opd_mul2 (de_var (i := 1) rfl (.inl rfl) rfl rfl) (de_int))) (de_int)) (da_nil) rfl) (by decide) rfl rfl rfl) (de_bin opd_add (de_bin opd_pow (de_int) (de_int)) (de_int))) rfl (.inl rfl)) (ds_cons (ds_set (i := 4) (nd rfl) rfl (.inl rfl) (de_int) rfl (.inl rfl)) (ds_cons (ds_if (de_cmpT (opd_lt2 (hr).u) (de_var (i := 1) rfl (.inl rfl) rfl rfl) (de_callB cl_len2 rfl G.n_len rfl (da_cons (de_var (i := 0) rfl (.inl rfl) rfl rfl) (da_nil) rfl) (by decide) rfl rfl rfl) rfl) (ds_cons (ds_set (i := 4) (nd rfl) rfl (.inl rfl) (de_callB (cl_max2 rfl) rfl G.n_max rfl (da_cons (de_int) (da_cons (de_bin opd_sub (de_callB cl_abs rfl G.n_abs rfl (da_cons (de_callTy cl_int rfl G.n_int rfl (da_cons (de_ix2 (hr).u (de_var (i := 0) rfl (.inl rfl) rfl rfl) (de_var (i := 1) rfl (.inl rfl) rfl rfl) (fun _ _ => rfl)) (da_nil) rfl) (by decide) rfl rfl rfl) (da_nil) rfl) (by decide) rfl rfl rfl) (de_bin opd_pow (de_int) (de_int))) (da_nil) rfl) rfl) (by decide) rfl rfl rfl) rfl (.inl rfl)) (ds_nil)) (ds_nil)) (ds_cons (ds_ret (de_lst (da_cons (de_var (i := 4) rfl (.inl rfl) rfl rfl) (da_cons (de_var (i := 2) rfl (.inl rfl) rfl rfl) (da_nil) rfl) rfl))) (ds_nil))))))
theorem sc__law_take : FnScope ["well", "many", "found", "mixed"] ["well", "many"] (defScope s__law_take) := ⟨rfl, rfl, rfl, by decide +kernel, rfl, by decide +kernel, by decide +kernel⟩
def r__law_take : DS := rSeq (rIfS (rTB (rBin oGt (rBin oIx2 (rVar 0) (rCst (.int 0))) (rCst (.int 0)))) (rSeq (rAsg (rBin oMod (rArg bInt (rCons (rBin oIx2 (rVar 0) (rCst (.int 0))) (rNil))) (rVar 1)) (rgName 2)) (rSeq (rAsg (rBin oDiv (rBin oIx2 (rVar 0) (rCst (.int 0))) (rVar 1)) (rgSub (rVar 0) (rCst (.int 0)) sSub)) (rSeq (rRet (rVar 2)) (rNext)))) (rNext)) (rSeq (rAsg (rBin oMod (rArg bInt (rCons (rBin oAdd (rBin oMul2 (rBin oIx2 (rVar 0) (rCst (.int 1))) (rCst (.int 6364136223846793005))) (rCst (.int 1442695040888963407))) (rNil))) (rBin oAdd (rBin oPow (rCst (.int 10)) (rCst (.int 28))) (rCst (.int 331)))) (rgSub (rVar 0) (rCst (.int 1)) sSub)) (rSeq (rAsg (rBin oMod (rArg bInt (rCons (rBin oAdd (rBin oDiv (rBin oMul2 (rBin oIx2 (rVar 0) (rCst (.int 1))) (rBin oIx2 (rVar 0) (rCst (.int 1)))) (rCst (.int 1000003))) (rBin oIx2 (rVar 0) (rCst (.int 1)))) (rNil))) (rCst (.int 9007199254740881))) (rgName 3)) (rSeq (rRet (rBin oMod (rArg bInt (rCons (rBin oDiv (rVar 3) (rCst (.int 13))) (rNil))) (rVar 1))) (rNext))))
theorem w__law_take {P : Program} {w : World} {K : PySem.W.Frag} {T : List Addr} {mg : Str → Option Value} {base : Heap} {k : Nat} {A : Around} {outer : List Env} {s : Shared} {H : Hp} {E : XK} {ex : EK} {c Pt fA : Addr}
    (hr : RoomG (k + 0) (A.deeper (envOfC "_law_take" (defScope s__law_take) s.heap.objs.size fA (.ref c)))) (G : Gm mg) :
    SsP' (bx P w K mg base ["well", "many", "found", "mixed"] "_law_take" (defScope s__law_take) fA (.ref c) A outer s H E) T ex (defBody s__law_take) (r__law_take) := by
  unfold r__law_take
  exact ds_cons (ds_if (de_cmpT opd_gt (de_ix2 (hr).u (de_var (i := 0) rfl (.inl rfl) rfl rfl) (de_int) (fun _ _ => rfl)) (de_int) rfl) (ds_cons (ds_set (i := 2) (nd rfl) rfl (.inl rfl) (de_bin opd_mod (de_callTy cl_int rfl G.n_int rfl (da_cons (de_ix2 (hr).u (de_var (i := 0) rfl (.inl rfl) rfl rfl) (de_int) (fun _ _ => rfl)) (da_nil) rfl) (by decide) rfl rfl rfl) (de_var (i := 1) rfl (.inl rfl) rfl rfl)) rfl (.inl rfl)) (ds_cons (ds_asg (de_bin opd_div (de_ix2 (hr).u (de_var (i := 0) rfl (.inl rfl) rfl rfl) (de_int) (fun _ _ => rfl)) (de_var (i := 1) rfl (.inl rfl) rfl rfl)) (dg_sub (de_var (i := 0) rfl (.inl rfl) rfl rfl) (de_int) (st_sub (hr).u) (fun _ => rfl)) rfl rfl rfl) (ds_cons (ds_ret (de_var (i := 2) rfl (.inl rfl) rfl rfl)) (ds_nil)))) (ds_nil)) (ds_cons (ds_asg (de_bin opd_mod (de_callTy cl_int rfl G.n_int rfl (da_cons (de_bin opd_add (de_bin opd_mul2 (de_ix2 (hr).u (de_var (i := 0) rfl (.inl rfl) rfl rfl) (de_int) (fun _ _ => rfl)) (de_int)) (de_int)) (da_nil) rfl) (by decide) rfl rfl rfl) (de_bin opd_add (de_bin opd_pow (de_int) (de_int)) (de_int))) (dg_sub (de_var (i := 0) rfl (.inl rfl) rfl rfl) (de_int) (st_sub (hr).u) (fun _ => rfl)) rfl rfl rfl) (ds_cons (ds_set (i := 3) (nd rfl) rfl (.inl rfl) (de_bin opd_mod (de_callTy cl_int rfl G.n_int rfl (da_cons (de_bin opd_add (de_bin opd_div (de_bin opd_mul2 (de_ix2 (hr).u (de_var (i := 0) rfl (.inl rfl) rfl rfl) (de_int) (fun _ _ => rfl)) (de_ix2 (hr).u (de_var (i := 0) rfl (.inl rfl) rfl rfl) (de_int) (fun _ _ => rfl))) (de_int)) (de_ix2 (hr).u (de_var (i := 0) rfl (.inl rfl) rfl rfl) (de_int) (fun _ _ => rfl))) (da_nil) rfl) (by decide) rfl rfl rfl) (de_int)) rfl (.inl rfl)) (ds_cons (ds_ret (de_bin opd_mod (de_callTy cl_int rfl G.n_int rfl (da_cons (de_bin opd_div (de_var (i := 3) rfl (.inl rfl) rfl rfl) (de_int)) (da_nil) rfl) (by decide) rfl rfl rfl) (de_var (i := 1) rfl (.inl rfl) rfl rfl))) (ds_nil))))
theorem sc__law_same : FnScope ["told", "due", "at"] ["told", "due"] (defScope s__law_same) := ⟨rfl, rfl, rfl, by decide +kernel, rfl, by decide +kernel, by decide +kernel⟩
def r__law_same (sp__law_same : DSp) : DS := rSeq (rIfS (rTB (rBin (oIs false) (rVar 1) (rCst .non))) (rSeq (rRet (rBin (oIs false) (rVar 0) (rCst .non))) (rNext)) (rNext)) (rSeq (rIfS (rTru (rArg bIsi2 (rCons (rVar 1) (rCons (rCst (.ty "bool")) (rNil))))) (rSeq (rRet (rIf (rTru (rVar 1)) (rBin (oIs false) (rVar 0) (rCst (.bl true))) (rBin (oIs false) (rVar 0) (rCst (.bl false))))) (rNext)) (rNext)) (rSeq (rIfS (rTru (rArg bIsi2 (rCons (rVar 1) (rCons (rCst (.ty "int")) (rNil))))) (rSeq (rRet (rAndV (rArg bIsi2 (rCons (rVar 0) (rCons (rCst (.ty "int")) (rNil)))) (rAndV (rNotV (rArg bIsi2 (rCons (rVar 0) (rCons (rCst (.ty "bool")) (rNil))))) (rBin (oEq false) (rVar 0) (rVar 1))))) (rNext)) (rNext)) (rSeq (rIfS (rTru (rArg bIsi2 (rCons (rVar 1) (rCons (rCst (.ty "str")) (rNil))))) (rSeq (rRet (rAndV (rArg bIsi2 (rCons (rVar 0) (rCons (rCst (.ty "str")) (rNil)))) (rBin (oEq false) (rVar 0) (rVar 1)))) (rNext)) (rNext)) (rSeq (rIfS (rOr (rTB (rBin (oEq true) (rArg bIsi2 (rCons (rVar 1) (rCons (rCst (.ty "tuple")) (rNil)))) (rArg bIsi2 (rCons (rVar 0) (rCons (rCst (.ty "tuple")) (rNil)))))) (rTB (rBin (oEq true) (rArg bIsi2 (rCons (rVar 1) (rCons (rCst (.ty "list")) (rNil)))) (rArg bIsi2 (rCons (rVar 0) (rCons (rCst (.ty "list")) (rNil))))))) (rSeq (rRet (rCst (.bl false))) (rNext)) (rNext)) (rSeq (rRet (rAndV (rBin (oEq false) (rArg bLen2 (rCons (rVar 0) (rNil))) (rArg bLen2 (rCons (rVar 1) (rNil)))) (rArg bAll (rCons (rLc [2] (rItR1 (rCons (rArg bLen2 (rCons (rVar 1) (rNil))) (rNil))) (rgName 2) (rYes) (rCall sp__law_same 2 (rCons (rBin oIx2 (rVar 0) (rVar 2)) (rCons (rBin oIx2 (rVar 1) (rVar 2)) (rNil))))) (rNil))))) (rNext))))))
theorem w__law_same {P : Program} {w : World} {K : PySem.W.Frag} {T : List Addr} {mg : Str → Option Value} {base : Heap} {k : Nat} {A : Around} {outer : List Env} {s : Shared} {H : Hp} {E : XK} {ex : EK} {c Pt fA : Addr} {sp__law_same : DSp}
    (hr : RoomG (k + 0) (A.deeper (envOfC "_law_same" (defScope s__law_same) s.heap.objs.size fA (.ref c)))) (G : Gm mg) (C__law_same : Cal ⟨P, w, K, T⟩ mg base k "_law_same" ["told", "due"] sp__law_same) :
    SsP' (bx P w K mg base ["told", "due", "at"] "_law_same" (defScope s__law_same) fA (.ref c) A outer s H E) T ex (defBody s__law_same) (r__law_same sp__law_same) := by
  unfold r__law_same
  exact ds_cons (ds_if (de_cmpT opd_is (de_var (i := 1) rfl (.inr (.inl rfl)) rfl rfl) (de_non) rfl) (ds_cons (ds_ret (de_cmp opd_is (de_var (i := 0) rfl (.inr (.inl rfl)) rfl rfl) (de_non) rfl)) (ds_nil)) (ds_nil)) (ds_cons (ds_if (de_tru (de_callB cl_isi2 rfl G.n_isinstance rfl (da_cons (de_var (i := 1) rfl (.inr (.inl rfl)) rfl rfl) (da_cons (de_ty rfl G.n_bool rfl (by decide) rfl) (da_nil) rfl) rfl) (by decide) rfl rfl rfl) (fun _ => rfl)) (ds_cons (ds_ret (de_if (de_tru (de_var (i := 1) rfl (.inr (.inl rfl)) rfl rfl) (fun _ => rfl)) (de_cmp opd_is (de_var (i := 0) rfl (.inr (.inl rfl)) rfl rfl) (de_bl) rfl) (de_cmp opd_is (de_var (i := 0) rfl (.inr (.inl rfl)) rfl rfl) (de_bl) rfl))) (ds_nil)) (ds_nil)) (ds_cons (ds_if (de_tru (de_callB cl_isi2 rfl G.n_isinstance rfl (da_cons (de_var (i := 1) rfl (.inr (.inl rfl)) rfl rfl) (da_cons (de_ty rfl G.n_int rfl (by decide) rfl) (da_nil) rfl) rfl) (by decide) rfl rfl rfl) (fun _ => rfl)) (ds_cons (ds_ret (de_and (de_callB cl_isi2 rfl G.n_isinstance rfl (da_cons (de_var (i := 0) rfl (.inr (.inl rfl)) rfl rfl) (da_cons (de_ty rfl G.n_int rfl (by decide) rfl) (da_nil) rfl) rfl) (by decide) rfl rfl rfl) (de_and (de_not (de_callB cl_isi2 rfl G.n_isinstance rfl (da_cons (de_var (i := 0) rfl (.inr (.inl rfl)) rfl rfl) (da_cons (de_ty rfl G.n_bool rfl (by decide) rfl) (da_nil) rfl) rfl) (by decide) rfl rfl rfl)) (de_one (de_cmp (opd_eq (hr).u) (de_var (i := 0) rfl (.inr (.inl rfl)) rfl rfl) (de_var (i := 1) rfl (.inr (.inl rfl)) rfl rfl) rfl))))) (ds_nil)) (ds_nil)) (ds_cons (ds_if (de_tru (de_callB cl_isi2 rfl G.n_isinstance rfl (da_cons (de_var (i := 1) rfl (.inr (.inl rfl)) rfl rfl) (da_cons (de_ty rfl G.n_str rfl (by decide) rfl) (da_nil) rfl) rfl) (by decide) rfl rfl rfl) (fun _ => rfl)) (ds_cons (ds_ret (de_and (de_callB cl_isi2 rfl G.n_isinstance rfl (da_cons (de_var (i := 0) rfl (.inr (.inl rfl)) rfl rfl) (da_cons (de_ty rfl G.n_str rfl (by decide) rfl) (da_nil) rfl) rfl) (by decide) rfl rfl rfl) (de_one (de_cmp (opd_eq (hr).u) (de_var (i := 0) rfl (.inr (.inl rfl)) rfl rfl) (de_var (i := 1) rfl (.inr (.inl rfl)) rfl rfl) rfl)))) (ds_nil)) (ds_nil)) (ds_cons (ds_if (PW.pt (dt_or (de_cmpT (opd_ne (hr).u) (de_callB cl_isi2 rfl G.n_isinstance rfl (da_cons (de_var (i := 1) rfl (.inr (.inl rfl)) rfl rfl) (da_cons (de_ty rfl G.n_tuple rfl (by decide) rfl) (da_nil) rfl) rfl) (by decide) rfl rfl rfl) (de_callB cl_isi2 rfl G.n_isinstance rfl (da_cons (de_var (i := 0) rfl (.inr (.inl rfl)) rfl rfl) (da_cons (de_ty rfl G.n_tuple rfl (by decide) rfl) (da_nil) rfl) rfl) (by decide) rfl rfl rfl) rfl) (dt_or1 (de_cmpT (opd_ne (hr).u) (de_callB cl_isi2 rfl G.n_isinstance rfl (da_cons (de_var (i := 1) rfl (.inr (.inl rfl)) rfl rfl) (da_cons (de_ty rfl G.n_list rfl (by decide) rfl) (da_nil) rfl) rfl) (by decide) rfl rfl rfl) (de_callB cl_isi2 rfl G.n_isinstance rfl (da_cons (de_var (i := 0) rfl (.inr (.inl rfl)) rfl rfl) (da_cons (de_ty rfl G.n_list rfl (by decide) rfl) (da_nil) rfl) rfl) (by decide) rfl rfl rfl) rfl)))) (ds_cons (ds_ret (de_bl)) (ds_nil)) (ds_nil)) (ds_cons (ds_ret (de_and (de_cmp (opd_eq (hr).u) (de_callB cl_len2 rfl G.n_len rfl (da_cons (de_var (i := 0) rfl (.inr (.inl rfl)) rfl rfl) (da_nil) rfl) (by decide) rfl rfl rfl) (de_callB cl_len2 rfl G.n_len rfl (da_cons (de_var (i := 1) rfl (.inr (.inl rfl)) rfl rfl) (da_nil) rfl) (by decide) rfl rfl rfl) rfl) (de_one (de_callB (cl_all rfl) rfl G.n_all rfl (da_cons (de_lc (own := [("at", 2)]) rfl (nd rfl) (di_range1 rfl G.n_range (da_cons (de_callB cl_len2 rfl G.n_len rfl (da_cons (de_var (i := 1) rfl (.inr (.inl rfl)) rfl rfl) (da_nil) rfl) (by decide) rfl rfl rfl) (da_nil) rfl) rfl) (blkOk_by rfl) (by decide) (fun s H C cl fp => dg_name (i := 2) (nd rfl) rfl (.inl rfl) (.inr rfl)) (fun s H C cl fp => dts_nil) (fun s H C cl fp => de_cal (ps := ["told", "due"]) C__law_same hr rfl (da_cons (de_ix2 (hr).u (de_var (i := 0) rfl (.inr (.inl rfl)) rfl rfl) (de_var (i := 2) rfl (.inl rfl) rfl rfl) (fun _ _ => rfl)) (da_cons (de_ix2 (hr).u (de_var (i := 1) rfl (.inr (.inl rfl)) rfl rfl) (de_var (i := 2) rfl (.inl rfl) rfl rfl) (fun _ _ => rfl)) (da_nil) rfl) rfl) rfl rfl rfl) (fun _ => rfl)) (da_nil) rfl) (by decide) rfl rfl rfl)))) (ds_nil))))))
theorem sc__law_word : FnScope ["well", "k", "most", "at"] ["well", "k", "most"] (defScope s__law_word) := ⟨rfl, rfl, rfl, by decide +kernel, rfl, by decide +kernel, by decide +kernel⟩
def r__law_word (sp__law_take : DSp) : DS := rSeq (rRet (rArg bTuple (rCons (rLc [3] (rItR1 (rCons (rCall sp__law_take 2 (rCons (rVar 0) (rCons (rBin oAdd (rVar 2) (rCst (.int 1))) (rNil)))) (rNil))) (rgName 3) (rYes) (rCall sp__law_take 2 (rCons (rVar 0) (rCons (rVar 1) (rNil))))) (rNil)))) (rNext)
theorem w__law_word {P : Program} {w : World} {K : PySem.W.Frag} {T : List Addr} {mg : Str → Option Value} {base : Heap} {k : Nat} {A : Around} {outer : List Env} {s : Shared} {H : Hp} {E : XK} {ex : EK} {c Pt fA : Addr} {sp__law_take : DSp}
    (hr : RoomG (k + 0) (A.deeper (envOfC "_law_word" (defScope s__law_word) s.heap.objs.size fA (.ref c)))) (G : Gm mg) (C__law_take : Cal ⟨P, w, K, T⟩ mg base k "_law_take" ["well", "many"] sp__law_take) :
    SsP' (bx P w K mg base ["well", "k", "most", "at"] "_law_word" (defScope s__law_word) fA (.ref c) A outer s H E) T ex (defBody s__law_word) (r__law_word sp__law_take) := by
  unfold r__law_word
  exact ds_cons (ds_ret (de_callTy cl_tuple rfl G.n_tuple rfl (da_cons (de_lc (own := [("at", 3)]) rfl (nd rfl) (di_range1 rfl G.n_range (da_cons (de_cal (ps := ["well", "many"]) C__law_take hr rfl (da_cons (de_var (i := 0) rfl (.inr (.inl rfl)) rfl rfl) (da_cons (de_bin opd_add (de_var (i := 2) rfl (.inl rfl) rfl rfl) (de_int)) (da_nil) rfl) rfl) rfl rfl rfl) (da_nil) rfl) rfl) (blkOk_by rfl) (by decide) (fun s H C cl fp => dg_name (i := 3) (nd rfl) rfl (.inl rfl) (.inr rfl)) (fun s H C cl fp => dts_nil) (fun s H C cl fp => de_cal (ps := ["well", "many"]) C__law_take hr rfl (da_cons (de_var (i := 0) rfl (.inr (.inl rfl)) rfl rfl) (da_cons (de_var (i := 1) rfl (.inr (.inl rfl)) rfl rfl) (da_nil) rfl) rfl) rfl rfl rfl) (fun _ => rfl)) (da_nil) rfl) (by decide) rfl rfl rfl)) (ds_nil)
theorem sc__law_strewn : FnScope ["one", "other", "left", "at"] ["one", "other"] (defScope s__law_strewn) := ⟨rfl, rfl, rfl, by decide +kernel, rfl, by decide +kernel, by decide +kernel⟩
def r__law_strewn : DS := rSeq (rAsg (rArg bLen2 (rCons (rVar 0) (rNil))) (rgName 2)) (rSeq (rFor (rItR1 (rCons (rArg bLen2 (rCons (rVar 1) (rNil))) (rNil))) (rgName 3) (rSeq (rIfS (rAnd (rTB (rBin oGt (rVar 2) (rCst (.int 0)))) (rTB (rBin (oEq false) (rBin oIx2 (rVar 1) (rBin oSub (rBin oSub (rArg bLen2 (rCons (rVar 1) (rNil))) (rCst (.int 1))) (rVar 3))) (rBin oIx2 (rVar 0) (rBin oSub (rVar 2) (rCst (.int 1))))))) (rSeq (rAsg (rBin oSub (rVar 2) (rCst (.int 1))) (rgName 2)) (rNext)) (rNext)) (rNext))) (rSeq (rRet (rBin (oEq false) (rVar 2) (rCst (.int 0)))) (rNext)))
theorem w__law_strewn {P : Program} {w : World} {K : PySem.W.Frag} {T : List Addr} {mg : Str → Option Value} {base : Heap} {k : Nat} {A : Around} {outer : List Env} {s : Shared} {H : Hp} {E : XK} {ex : EK} {c Pt fA : Addr}
    (hr : RoomG (k + 0) (A.deeper (envOfC "_law_strewn" (defScope s__law_strewn) s.heap.objs.size fA (.ref c)))) (G : Gm mg) :
    SsP' (bx P w K mg base ["one", "other", "left", "at"] "_law_strewn" (defScope s__law_strewn) fA (.ref c) A outer s H E) T ex (defBody s__law_strewn) (r__law_strewn) := by
  unfold r__law_strewn
  exact ds_cons (ds_set (i := 2) (nd rfl) rfl (.inl rfl) (de_callB cl_len2 rfl G.n_len rfl (da_cons (de_var (i := 0) rfl (.inl rfl) rfl rfl) (da_nil) rfl) (by decide) rfl rfl rfl) rfl (.inl rfl)) (ds_cons (ds_for (never rfl) rfl (di_range1 rfl G.n_range (da_cons (de_callB cl_len2 rfl G.n_len rfl (da_cons (de_var (i := 1) rfl (.inl rfl) rfl rfl) (da_nil) rfl) (by decide) rfl rfl rfl) (da_nil) rfl) rfl) (dg_name (i := 3) (nd rfl) rfl (.inl rfl) (.inl rfl)) (ds_cons (ds_if (PW.pt (dt_and (de_cmpT opd_gt (de_var (i := 2) rfl (.inl rfl) rfl rfl) (de_int) rfl) (dt_and1 (de_cmpT (opd_eq (hr).u) (de_ix2 (hr).u (de_var (i := 1) rfl (.inl rfl) rfl rfl) (de_bin opd_sub (de_bin opd_sub (de_callB cl_len2 rfl G.n_len rfl (da_cons (de_var (i := 1) rfl (.inl rfl) rfl rfl) (da_nil) rfl) (by decide) rfl rfl rfl) (de_int)) (de_var (i := 3) rfl (.inl rfl) rfl rfl)) (fun _ _ => rfl)) (de_ix2 (hr).u (de_var (i := 0) rfl (.inl rfl) rfl rfl) (de_bin opd_sub (de_var (i := 2) rfl (.inl rfl) rfl rfl) (de_int)) (fun _ _ => rfl)) rfl)))) (ds_cons (ds_set (i := 2) (nd rfl) rfl (.inl rfl) (de_bin opd_sub (de_var (i := 2) rfl (.inl rfl) rfl rfl) (de_int)) rfl (.inl rfl)) (ds_nil)) (ds_nil)) (ds_nil)) (fun _ => rfl)) (ds_cons (ds_ret (de_cmp (opd_eq (hr).u) (de_var (i := 2) rfl (.inl rfl) rfl rfl) (de_int) rfl)) (ds_nil)))
theorem sc__law_paper_right : FnScope ["system", "start", "goal", "due", "told", "stands", "at"] ["system", "start", "goal", "due", "told"] (defScope s__law_paper_right) := ⟨rfl, rfl, rfl, by decide +kernel, rfl, by decide +kernel, by decide +kernel⟩
def r__law_paper_right (sp__law_same sp_judge_comes sp_ahead sp__law_strewn sp_leads_on : DSp) : DS := rSeq (rIfS (rNot (rTru (rCall sp__law_same 2 (rCons (rLst (rCons (rBin oIx2 (rVar 4) (rCst (.int 0))) (rCons (rCall sp_judge_comes 4 (rCons (rVar 0) (rCons (rVar 1) (rCons (rVar 2) (rCons (rVar 4) (rNil)))))) (rNil)))) (rCons (rLst (rCons (rIf (rTru (rVar 3)) (rCst (.str "run")) (rCst (.str "barrier"))) (rCons (rCst (.bl true)) (rNil)))) (rNil)))))) (rSeq (rRet (rCst (.bl false))) (rNext)) (rNext)) (rSeq (rIfS (rNot (rTru (rVar 3))) (rSeq (rRet (rCall sp__law_same 2 (rCons (rVar 4) (rCons (rTup (rCons (rCst (.str "barrier")) (rCons (rCall sp_ahead 2 (rCons (rVar 0) (rCons (rVar 2) (rNil)))) (rNil)))) (rNil))))) (rNext)) (rNext)) (rSeq (rAsg (rBin oIx2 (rVar 4) (rCst (.int 1))) (rgName 5)) (rSeq (rIfS (rOr (rNot (rTru (rArg bIsi2 (rCons (rVar 5) (rCons (rCst (.ty "tuple")) (rNil)))))) (rOr (rTB (rBin (oEq false) (rVar 5) (rTup (rNil)))) (rOr (rTB (rBin (oEq true) (rBin oIx2 (rVar 5) (rUn oNeg (rCst (.int 1)))) (rVar 2))) (rOr (rTB (rBin (oEq true) (rBin oIx2 (rBin oIx2 (rVar 5) (rCst (.int 0))) (rCst (.int 0))) (rBin oIx2 (rVar 1) (rCst (.int 0))))) (rNot (rTru (rCall sp__law_strewn 2 (rCons (rBin oIx2 (rBin oIx2 (rBin oIx2 (rVar 5) (rCst (.int 0))) (rCst (.int 1))) (rCst (.int 0))) (rCons (rBin oIx2 (rBin oIx2 (rVar 1) (rCst (.int 1))) (rCst (.int 0))) (rNil)))))))))) (rSeq (rRet (rCst (.bl false))) (rNext)) (rNext)) (rSeq (rRet (rArg bAll (rCons (rLc [6] (rItR1 (rCons (rBin oSub (rArg bLen2 (rCons (rVar 5) (rNil))) (rCst (.int 1))) (rNil))) (rgName 6) (rYes) (rBin (oIs false) (rCall sp_leads_on 3 (rCons (rVar 0) (rCons (rBin oIx2 (rVar 5) (rVar 6)) (rCons (rBin oIx2 (rVar 5) (rBin oAdd (rVar 6) (rCst (.int 1)))) (rNil))))) (rCst (.bl true)))) (rNil)))) (rNext)))))
theorem w__law_paper_right {P : Program} {w : World} {K : PySem.W.Frag} {T : List Addr} {mg : Str → Option Value} {base : Heap} {k : Nat} {A : Around} {outer : List Env} {s : Shared} {H : Hp} {E : XK} {ex : EK} {c Pt fA : Addr} {sp__law_same sp_judge_comes sp_ahead sp__law_strewn sp_leads_on : DSp}
    (hr : RoomG (k + 0) (A.deeper (envOfC "_law_paper_right" (defScope s__law_paper_right) s.heap.objs.size fA (.ref c)))) (G : Gm mg) (C__law_same : Cal ⟨P, w, K, T⟩ mg base k "_law_same" ["told", "due"] sp__law_same) (C_judge_comes : Cal ⟨P, w, K, T⟩ mg base k "judge_comes" ["system", "start", "goal", "value"] sp_judge_comes) (C_ahead : Cal ⟨P, w, K, T⟩ mg base k "ahead" ["system", "goal"] sp_ahead) (C__law_strewn : Cal ⟨P, w, K, T⟩ mg base k "_law_strewn" ["one", "other"] sp__law_strewn) (C_leads_on : Cal ⟨P, w, K, T⟩ mg base k "leads_on" ["system", "one", "other"] sp_leads_on) :
    SsP' (bx P w K mg base ["system", "start", "goal", "due", "told", "stands", "at"] "_law_paper_right" (defScope s__law_paper_right) fA (.ref c) A outer s H E) T ex (defBody s__law_paper_right) (r__law_paper_right sp__law_same sp_judge_comes sp_ahead sp__law_strewn sp_leads_on) := by
  unfold r__law_paper_right
  exact ds_cons (ds_if (dt_not (de_tru (de_cal (ps := ["told", "due"]) C__law_same hr rfl (da_cons (de_lst (da_cons (de_ix2 (hr).u (de_var (i := 4) rfl (.inl rfl) rfl rfl) (de_int) (fun _ _ => rfl)) (da_cons (de_cal (ps := ["system", "start", "goal", "value"]) C_judge_comes hr rfl (da_cons (de_var (i := 0) rfl (.inr (.inl rfl)) rfl rfl) (da_cons (de_var (i := 1) rfl (.inl rfl) rfl rfl) (da_cons (de_var (i := 2) rfl (.inl rfl) rfl rfl) (da_cons (de_var (i := 4) rfl (.inl rfl) rfl rfl) (da_nil) rfl) rfl) rfl) rfl) rfl rfl rfl) (da_nil) rfl) rfl)) (da_cons (de_lst (da_cons (de_if (de_tru (de_var (i := 3) rfl (.inl rfl) rfl rfl) (fun _ => rfl)) (de_str) (de_str)) (da_cons (de_bl) (da_nil) rfl) rfl)) (da_nil) rfl) rfl) rfl rfl rfl) (fun _ => rfl))) (ds_cons (ds_ret (de_bl)) (ds_nil)) (ds_nil)) (ds_cons (ds_if (dt_not (de_tru (de_var (i := 3) rfl (.inl rfl) rfl rfl) (fun _ => rfl))) (ds_cons (ds_ret (de_cal (ps := ["told", "due"]) C__law_same hr rfl (da_cons (de_var (i := 4) rfl (.inl rfl) rfl rfl) (da_cons (de_tup (da_cons (de_str) (da_cons (de_cal (ps := ["system", "goal"]) C_ahead hr rfl (da_cons (de_var (i := 0) rfl (.inr (.inl rfl)) rfl rfl) (da_cons (de_var (i := 2) rfl (.inl rfl) rfl rfl) (da_nil) rfl) rfl) rfl rfl rfl) (da_nil) rfl) rfl)) (da_nil) rfl) rfl) rfl rfl rfl)) (ds_nil)) (ds_nil)) (ds_cons (ds_set (i := 5) (nd rfl) rfl (.inr rfl) (de_ix2 (hr).u (de_var (i := 4) rfl (.inl rfl) rfl rfl) (de_int) (fun _ _ => rfl)) rfl (.inl rfl)) (ds_cons (ds_if (PW.pt (dt_or (dt_not (de_tru (de_callB cl_isi2 rfl G.n_isinstance rfl (da_cons (de_var (i := 5) rfl (.inr (.inl rfl)) rfl rfl) (da_cons (de_ty rfl G.n_tuple rfl (by decide) rfl) (da_nil) rfl) rfl) (by decide) rfl rfl rfl) (fun _ => rfl))) (dt_or (de_cmpT (opd_eq (hr).u) (de_var (i := 5) rfl (.inr (.inl rfl)) rfl rfl) (de_tup (da_nil)) rfl) (dt_or (de_cmpT (opd_ne (hr).u) (de_ix2 (hr).u (de_var (i := 5) rfl (.inr (.inl rfl)) rfl rfl) (de_un opd_neg (de_int)) (fun _ _ => rfl)) (de_var (i := 2) rfl (.inl rfl) rfl rfl) rfl) (dt_or (de_cmpT (opd_ne (hr).u) (de_ix2 (hr).u (de_ix2 (hr).u (de_var (i := 5) rfl (.inr (.inl rfl)) rfl rfl) (de_int) (fun _ _ => rfl)) (de_int) (fun _ _ => rfl)) (de_ix2 (hr).u (de_var (i := 1) rfl (.inl rfl) rfl rfl) (de_int) (fun _ _ => rfl)) rfl) (dt_or1 (dt_not (de_tru (de_cal (ps := ["one", "other"]) C__law_strewn hr rfl (da_cons (de_ix2 (hr).u (de_ix2 (hr).u (de_ix2 (hr).u (de_var (i := 5) rfl (.inr (.inl rfl)) rfl rfl) (de_int) (fun _ _ => rfl)) (de_int) (fun _ _ => rfl)) (de_int) (fun _ _ => rfl)) (da_cons (de_ix2 (hr).u (de_ix2 (hr).u (de_var (i := 1) rfl (.inl rfl) rfl rfl) (de_int) (fun _ _ => rfl)) (de_int) (fun _ _ => rfl)) (da_nil) rfl) rfl) rfl rfl rfl) (fun _ => rfl))))))))) (ds_cons (ds_ret (de_bl)) (ds_nil)) (ds_nil)) (ds_cons (ds_ret (de_callB (cl_all rfl) rfl G.n_all rfl (da_cons (de_lc (own := [("at", 6)]) rfl (nd rfl) (di_range1 rfl G.n_range (da_cons (de_bin opd_sub (de_callB cl_len2 rfl G.n_len rfl (da_cons (de_var (i := 5) rfl (.inr (.inl rfl)) rfl rfl) (da_nil) rfl) (by decide) rfl rfl rfl) (de_int)) (da_nil) rfl) rfl) (blkOk_by rfl) (by decide) (fun s H C cl fp => dg_name (i := 6) (nd rfl) rfl (.inl rfl) (.inr rfl)) (fun s H C cl fp => dts_nil) (fun s H C cl fp => de_cmp opd_is (de_cal (ps := ["system", "one", "other"]) C_leads_on hr rfl (da_cons (de_var (i := 0) rfl (.inr (.inl rfl)) rfl rfl) (da_cons (de_ix2 (hr).u (de_var (i := 5) rfl (.inr (.inl rfl)) rfl rfl) (de_var (i := 6) rfl (.inl rfl) rfl rfl) (fun _ _ => rfl)) (da_cons (de_ix2 (hr).u (de_var (i := 5) rfl (.inr (.inl rfl)) rfl rfl) (de_bin opd_add (de_var (i := 6) rfl (.inl rfl) rfl rfl) (de_int)) (fun _ _ => rfl)) (da_nil) rfl) rfl) rfl) rfl rfl rfl) (de_bl) rfl) (fun _ => rfl)) (da_nil) rfl) (by decide) rfl rfl rfl)) (ds_nil)))))
theorem sc_law : FnScope ["script", "at", "well", "turn", "rooms", "bits", "letter", "letters", "steps", "system", "start", "goal", "kept", "atoms", "due", "left", "bars"] ["script"] (defScope s_law) := ⟨rfl, rfl, rfl, by decide +kernel, rfl, by decide +kernel, by decide +kernel⟩
def r_law (sp__law_well sp__law_take sp__law_word sp_product_has sp_reduced sp_is_system sp__law_paper_right sp_comes sp__law_same sp_ahead sp__law_strewn : DSp) : DS := rSeq (rFor (rItR1 (rCons (rArg bMax2 (rCons (rCst (.int 1)) (rCons (rArg bMin2 (rCons (rCst (.int 2)) (rCons (rArg bLen2 (rCons (rVar 0) (rNil))) (rNil)))) (rNil)))) (rNil))) (rgName 1) (rSeq (rAsg (rCall sp__law_well 2 (rCons (rVar 0) (rCons (rVar 1) (rNil)))) (rgName 2)) (rSeq (rFor (rItR1 (rCons (rCst (.int 3)) (rNil))) (rgName 3) (rSeq (rAsg (rTup (rCons (rBin oAdd (rCst (.int 1)) (rCall sp__law_take 2 (rCons (rVar 2) (rCons (rCst (.int 2)) (rNil))))) (rCons (rCall sp__law_take 2 (rCons (rVar 2) (rCons (rCst (.int 4)) (rNil)))) (rNil)))) (rgTup 2 (rgCons (rgName 4) (rgCons (rgName 5) (rgNil))))) (rSeq (rAsg (rArg bTuple (rCons (rLc [6] (rItR1 (rCons (rCst (.int 2)) (rNil))) (rgName 6) (rTB (rBin (oEq false) (rBin oBAnd (rBin oShr (rVar 5) (rVar 6)) (rCst (.int 1))) (rCst (.int 1)))) (rVar 6)) (rNil))) (rgName 7)) (rSeq (rAsg (rLc [6] (rItV (rVar 7)) (rgName 6) (rYes) (rTup (rCons (rCst (.int 0)) (rCons (rTup (rCons (rCst (.int 1)) (rCons (rCst (.int 0)) (rCons (rVar 6) (rNil))))) (rCons (rCst (.int 0)) (rNil)))))) (rgName 8)) (rSeq (rIfS (rTB (rBin (oEq false) (rCall sp__law_take 2 (rCons (rVar 2) (rCons (rCst (.int 2)) (rNil)))) (rCst (.int 0)))) (rSeq (rDrop (rMt mAppend "list" (rVar 8) (rCons (rTup (rCons (rCst (.int 0)) (rCons (rTup (rCons (rCst (.int 0)) (rNil))) (rCons (rCst (.int 0)) (rNil))))) (rNil)))) (rNext)) (rNext)) (rSeq (rAsg (rTup (rCons (rCst (.int 2)) (rCons (rVar 4) (rCons (rCst (.int 1)) (rCons (rArg bTuple (rCons (rArg bSorted (rCons (rVar 8) (rNil))) (rNil))) (rNil)))))) (rgName 9)) (rSeq (rPar [10, 11] (rTup (rCons (rTup (rCons (rCst (.int 0)) (rCons (rTup (rCons (rCall sp__law_word 3 (rCons (rVar 2) (rCons (rCst (.int 2)) (rCons (rCst (.int 4)) (rNil))))) (rNil))) (rNil)))) (rCons (rTup (rCons (rCst (.int 0)) (rCons (rTup (rCons (rCall sp__law_word 3 (rCons (rVar 2) (rCons (rCst (.int 2)) (rCons (rCst (.int 4)) (rNil))))) (rNil))) (rNil)))) (rNil))))) (rSeq (rAsg (rArg bRepr (rCons (rLst (rCons (rVar 9) (rCons (rVar 10) (rCons (rVar 11) (rNil))))) (rNil))) (rgName 12)) (rSeq (rAsg (rBin oAdd (rArg bTuple (rCons (rLc [6] (rItV (rBin oIx2 (rBin oIx2 (rVar 10) (rCst (.int 1))) (rCst (.int 0)))) (rgName 6) (rYes) (rTup (rCons (rCst (.str "one")) (rCons (rVar 6) (rNil))))) (rNil))) (rIf (rTB (rBin (oEq true) (rVar 7) (rTup (rNil)))) (rTup (rCons (rTup (rCons (rCst (.str "any")) (rCons (rVar 7) (rNil)))) (rNil))) (rTup (rNil)))) (rgName 13)) (rSeq (rAsg (rCall sp_product_has 2 (rCons (rCall sp_reduced 2 (rCons (rCst (.int 2)) (rCons (rVar 13) (rNil)))) (rCons (rBin oIx2 (rBin oIx2 (rVar 11) (rCst (.int 1))) (rCst (.int 0))) (rNil)))) (rgName 14)) (rSeq (rIfS (rOr (rTB (rBin (oIs true) (rCall sp_is_system 1 (rCons (rVar 9) (rNil))) (rCst (.bl true)))) (rNot (rTru (rCall sp__law_paper_right 5 (rCons (rVar 9) (rCons (rVar 10) (rCons (rVar 11) (rCons (rVar 14) (rCons (rCall sp_comes 3 (rCons (rVar 9) (rCons (rVar 10) (rCons (rVar 11) (rNil))))) (rNil)))))))))) (rSeq (rRet (rCst (.bl false))) (rNext)) (rNext)) (rSeq (rAsg (rArg bList2 (rCons (rBin oIx2 (rBin oIx2 (rVar 11) (rCst (.int 1))) (rCst (.int 0))) (rNil))) (rgName 15)) (rSeq (rFor (rItV (rRev (rBin oIx2 (rBin oIx2 (rVar 11) (rCst (.int 1))) (rCst (.int 0))))) (rgName 6) (rSeq (rIfS (rTB (rBin (oIn2 true) (rVar 6) (rVar 7))) (rSeq (rBrk) (rNext)) (rNext)) (rSeq (rAsg (rCut (rVar 15) (rNoP) (rPart (rUn oNeg (rCst (.int 1))))) (rgName 15)) (rNext)))) (rSeq (rAsg (rBin oAdd (rTup (rCons (rTup (rCons (rTup (rCons (rArg bTuple (rCons (rVar 15) (rNil))) (rNil))) (rNil))) (rNil))) (rBin oMul2 (rTup (rCons (rTup (rNil)) (rNil))) (rBin oSub (rVar 4) (rCst (.int 1))))) (rgName 16)) (rSeq (rIfS (rOr (rNot (rTru (rCall sp__law_same 2 (rCons (rLst (rCons (rCall sp_ahead 2 (rCons (rVar 9) (rCons (rVar 11) (rNil)))) (rCons (rCallK sp_ahead 2 [1, 0] (rCons (rVar 11) (rCons (rVar 9) (rNil)))) (rNil)))) (rCons (rLst (rCons (rVar 16) (rCons (rVar 16) (rNil)))) (rNil)))))) (rTB (rBin (oEq true) (rCall sp__law_strewn 2 (rCons (rVar 15) (rCons (rBin oIx2 (rBin oIx2 (rVar 10) (rCst (.int 1))) (rCst (.int 0))) (rNil)))) (rVar 14)))) (rSeq (rRet (rCst (.bl false))) (rNext)) (rNext)) (rSeq (rIfS (rOr (rAnd (rTB (rBin (oEq false) (rVar 4) (rCst (.int 2)))) (rTB (rBin (oEq true) (rBin oIx2 (rCall sp_comes 3 (rCons (rVar 9) (rCons (rVar 10) (rCons (rTup (rCons (rCst (.int 1)) (rCons (rTup (rCons (rTup (rNil)) (rNil))) (rNil)))) (rNil))))) (rCst (.int 0))) (rCst (.str "barrier"))))) (rTB (rBin (oEq true) (rArg bRepr (rCons (rLst (rCons (rVar 9) (rCons (rVar 10) (rCons (rVar 11) (rNil))))) (rNil))) (rVar 12)))) (rSeq (rRet (rCst (.bl false))) (rNext)) (rNext)) (rNext))))))))))))))))) (rNext)))) (rSeq (rRet (rCst (.bl true))) (rNext))
theorem w_law {P : Program} {w : World} {K : PySem.W.Frag} {T : List Addr} {mg : Str → Option Value} {base : Heap} {k : Nat} {A : Around} {outer : List Env} {s : Shared} {H : Hp} {E : XK} {ex : EK} {c Pt fA : Addr} {sp__law_well sp__law_take sp__law_word sp_product_has sp_reduced sp_is_system sp__law_paper_right sp_comes sp__law_same sp_ahead sp__law_strewn : DSp}
    (hr : RoomG (k + 0) (A.deeper (envOfC "law" (defScope s_law) s.heap.objs.size fA (.ref c)))) (G : Gm mg) (C__law_well : Cal ⟨P, w, K, T⟩ mg base k "_law_well" ["script", "at"] sp__law_well) (C__law_take : Cal ⟨P, w, K, T⟩ mg base k "_law_take" ["well", "many"] sp__law_take) (C__law_word : Cal ⟨P, w, K, T⟩ mg base k "_law_word" ["well", "k", "most"] sp__law_word) (C_product_has : Cal ⟨P, w, K, T⟩ mg base k "product_has" ["product", "word"] sp_product_has) (C_reduced : Cal ⟨P, w, K, T⟩ mg base k "reduced" ["k", "atoms"] sp_reduced) (C_is_system : Cal ⟨P, w, K, T⟩ mg base k "is_system" ["value"] sp_is_system) (C__law_paper_right : Cal ⟨P, w, K, T⟩ mg base k "_law_paper_right" ["system", "start", "goal", "due", "told"] sp__law_paper_right) (C_comes : Cal ⟨P, w, K, T⟩ mg base k "comes" ["system", "start", "goal"] sp_comes) (C__law_same : Cal ⟨P, w, K, T⟩ mg base k "_law_same" ["told", "due"] sp__law_same) (C_ahead : Cal ⟨P, w, K, T⟩ mg base k "ahead" ["system", "goal"] sp_ahead) (C__law_strewn : Cal ⟨P, w, K, T⟩ mg base k "_law_strewn" ["one", "other"] sp__law_strewn) (K0_ahead : CalK ⟨P, w, K, T⟩ mg base k "ahead" ["system", "goal"] sp_ahead ["goal", "system"] [1, 0]) :
    SsP' (bx P w K mg base ["script", "at", "well", "turn", "rooms", "bits", "letter", "letters", "steps", "system", "start", "goal", "kept", "atoms", "due", "left", "bars"] "law" (defScope s_law) fA (.ref c) A outer s H E) T ex (defBody s_law) (r_law sp__law_well sp__law_take sp__law_word sp_product_has sp_reduced sp_is_system sp__law_paper_right sp_comes sp__law_same sp_ahead sp__law_strewn) := by
  unfold r_law
  exact ds_cons (ds_for (never rfl) rfl (di_range1 rfl G.n_range (da_cons (de_callB (cl_max2 rfl) rfl G.n_max rfl (da_cons (de_int) (da_cons (de_callB (cl_min2 rfl) rfl G.n_min rfl (da_cons (de_int) (da_cons (de_callB cl_len2 rfl G.n_len rfl (da_cons (de_var (i := 0) rfl (.inl rfl) rfl rfl) (da_nil) rfl) (by decide) rfl rfl rfl) (da_nil) rfl) rfl) (by decide) rfl rfl rfl) (da_nil) rfl) rfl) (by decide) rfl rfl rfl) (da_nil) rfl) rfl) (dg_name (i := 1) (nd rfl) rfl (.inl rfl) (.inl rfl)) (ds_cons (ds_set (i := 2) (nd rfl) rfl (.inl rfl) (de_cal (ps := ["script", "at"]) C__law_well hr rfl (da_cons (de_var (i := 0) rfl (.inl rfl) rfl rfl) (da_cons (de_var (i := 1) rfl (.inl rfl) rfl rfl) (da_nil) rfl) rfl) rfl rfl rfl) rfl (.inl rfl)) (ds_cons (ds_for (never rfl) rfl (di_range1 rfl G.n_range (da_cons (de_int) (da_nil) rfl) rfl) (dg_name (i := 3) (nd rfl) rfl (.inl rfl) (.inl rfl)) (ds_cons (ds_asg (de_tup (da_cons (de_bin opd_add (de_int) (de_cal (ps := ["well", "many"]) C__law_take hr rfl (da_cons (de_var (i := 2) rfl (.inl rfl) rfl rfl) (da_cons (de_int) (da_nil) rfl) rfl) rfl rfl rfl)) (da_cons (de_cal (ps := ["well", "many"]) C__law_take hr rfl (da_cons (de_var (i := 2) rfl (.inl rfl) rfl rfl) (da_cons (de_int) (da_nil) rfl) rfl) rfl rfl rfl) (da_nil) rfl) rfl)) (dg_tup rfl (dgs_cons (dg_name (i := 4) (nd rfl) rfl (.inl rfl) (.inl rfl)) (dgs_cons (dg_name (i := 5) (nd rfl) rfl (.inr rfl) (.inl rfl)) (dgs_nil) rfl) rfl) rfl rfl) rfl rfl rfl) (ds_cons (ds_set (i := 7) (nd rfl) rfl (.inl rfl) (de_callTy cl_tuple rfl G.n_tuple rfl (da_cons (de_lc (own := [("letter", 6)]) rfl (nd rfl) (di_range1 rfl G.n_range (da_cons (de_int) (da_nil) rfl) rfl) (blkOk_by rfl) (by decide) (fun s H C cl fp => dg_name (i := 6) (nd rfl) rfl (.inl rfl) (.inr rfl)) (fun s H C cl fp => dts_one (de_cmpT (opd_eq (hr).u) (de_bin opd_band (de_bin opd_shr (de_var (i := 5) rfl (.inr (.inl rfl)) rfl rfl) (de_var (i := 6) rfl (.inl rfl) rfl rfl)) (de_int)) (de_int) rfl)) (fun s H C cl fp => de_var (i := 6) rfl (.inl rfl) rfl rfl) (fun _ => rfl)) (da_nil) rfl) (by decide) rfl rfl rfl) rfl (.inl rfl)) (ds_cons (ds_setLc (i := 8) (own := [("letter", 6)]) rfl (nd rfl) rfl rfl rfl (di_val (de_var (i := 7) rfl (.inl rfl) rfl rfl)) (blkOk_by rfl) (by decide) (fun s H C cl fp => dg_name (i := 6) (nd rfl) rfl (.inl rfl) (.inr rfl)) (fun s H C cl fp => dts_nil) (fun s H C cl fp => de_tup (da_cons (de_int) (da_cons (de_tup (da_cons (de_int) (da_cons (de_int) (da_cons (de_var (i := 6) rfl (.inl rfl) rfl rfl) (da_nil) rfl) rfl) rfl)) (da_cons (de_int) (da_nil) rfl) rfl) rfl)) (fun _ => rfl)) (ds_cons (ds_if (de_cmpT (opd_eq (hr).u) (de_cal (ps := ["well", "many"]) C__law_take hr rfl (da_cons (de_var (i := 2) rfl (.inl rfl) rfl rfl) (da_cons (de_int) (da_nil) rfl) rfl) rfl rfl rfl) (de_int) rfl) (ds_cons (ds_drop (de_mt PySem.F.plainAttrs_list PySem.F.slot_list_append PySem.F.type_list_append (.inl rfl) ml_append (de_var (i := 8) rfl (.inl rfl) rfl rfl) (da_cons (de_tup (da_cons (de_int) (da_cons (de_tup (da_cons (de_int) (da_nil) rfl)) (da_cons (de_int) (da_nil) rfl) rfl) rfl)) (da_nil) rfl) rfl rfl rfl rfl rfl) rfl) (ds_nil)) (ds_nil)) (ds_cons (ds_set (i := 9) (nd rfl) rfl (.inl rfl) (de_tup (da_cons (de_int) (da_cons (de_var (i := 4) rfl (.inl rfl) rfl rfl) (da_cons (de_int) (da_cons (de_callTy cl_tuple rfl G.n_tuple rfl (da_cons (de_callB (cl_sorted (hr).u rfl) rfl G.n_sorted rfl (da_cons (de_var (i := 8) rfl (.inl rfl) rfl rfl) (da_nil) rfl) (by decide) rfl rfl rfl) (da_nil) rfl) (by decide) rfl rfl rfl) (da_nil) rfl) rfl) rfl) rfl)) rfl (.inl rfl)) (ds_cons (ds_par2 (i := 10) (j := 11) rfl (nd rfl) rfl rfl rfl rfl (de_tup (da_cons (de_tup (da_cons (de_int) (da_cons (de_tup (da_cons (de_cal (ps := ["well", "k", "most"]) C__law_word hr rfl (da_cons (de_var (i := 2) rfl (.inl rfl) rfl rfl) (da_cons (de_int) (da_cons (de_int) (da_nil) rfl) rfl) rfl) rfl rfl rfl) (da_nil) rfl)) (da_nil) rfl) rfl)) (da_cons (de_tup (da_cons (de_int) (da_cons (de_tup (da_cons (de_cal (ps := ["well", "k", "most"]) C__law_word hr rfl (da_cons (de_var (i := 2) rfl (.inl rfl) rfl rfl) (da_cons (de_int) (da_cons (de_int) (da_nil) rfl) rfl) rfl) rfl rfl rfl) (da_nil) rfl)) (da_nil) rfl) rfl)) (da_nil) rfl) rfl)) rfl rfl) (ds_cons (ds_set (i := 12) (nd rfl) rfl (.inl rfl) (de_callB (cl_repr (hr).gd (hr).u) rfl G.n_repr rfl (da_cons (de_lst (da_cons (de_var (i := 9) rfl (.inl rfl) rfl rfl) (da_cons (de_var (i := 10) rfl (.inl rfl) rfl rfl) (da_cons (de_var (i := 11) rfl (.inl rfl) rfl rfl) (da_nil) rfl) rfl) rfl)) (da_nil) rfl) (by decide) rfl rfl rfl) rfl (.inl rfl)) (ds_cons (ds_set (i := 13) (nd rfl) rfl (.inl rfl) (de_bin opd_add (de_callTy cl_tuple rfl G.n_tuple rfl (da_cons (de_lc (own := [("letter", 6)]) rfl (nd rfl) (di_val (de_ix2 (hr).u (de_ix2 (hr).u (de_var (i := 10) rfl (.inl rfl) rfl rfl) (de_int) (fun _ _ => rfl)) (de_int) (fun _ _ => rfl))) (blkOk_by rfl) (by decide) (fun s H C cl fp => dg_name (i := 6) (nd rfl) rfl (.inl rfl) (.inr rfl)) (fun s H C cl fp => dts_nil) (fun s H C cl fp => de_tup (da_cons (de_str) (da_cons (de_var (i := 6) rfl (.inl rfl) rfl rfl) (da_nil) rfl) rfl)) (fun _ => rfl)) (da_nil) rfl) (by decide) rfl rfl rfl) (de_if (de_cmpT (opd_ne (hr).u) (de_var (i := 7) rfl (.inl rfl) rfl rfl) (de_tup (da_nil)) rfl) (de_tup (da_cons (de_tup (da_cons (de_str) (da_cons (de_var (i := 7) rfl (.inl rfl) rfl rfl) (da_nil) rfl) rfl)) (da_nil) rfl)) (de_tup (da_nil)))) rfl (.inl rfl)) (ds_cons (ds_set (i := 14) (nd rfl) rfl (.inl rfl) (de_cal (ps := ["product", "word"]) C_product_has hr rfl (da_cons (de_cal (ps := ["k", "atoms"]) C_reduced hr rfl (da_cons (de_int) (da_cons (de_var (i := 13) rfl (.inl rfl) rfl rfl) (da_nil) rfl) rfl) rfl rfl rfl) (da_cons (de_ix2 (hr).u (de_ix2 (hr).u (de_var (i := 11) rfl (.inl rfl) rfl rfl) (de_int) (fun _ _ => rfl)) (de_int) (fun _ _ => rfl)) (da_nil) rfl) rfl) rfl rfl rfl) rfl (.inl rfl)) (ds_cons (ds_if (PW.pt (dt_or (de_cmpT opd_isNot (de_cal (ps := ["value"]) C_is_system hr rfl (da_cons (de_var (i := 9) rfl (.inl rfl) rfl rfl) (da_nil) rfl) rfl rfl rfl) (de_bl) rfl) (dt_or1 (dt_not (de_tru (de_cal (ps := ["system", "start", "goal", "due", "told"]) C__law_paper_right hr rfl (da_cons (de_var (i := 9) rfl (.inl rfl) rfl rfl) (da_cons (de_var (i := 10) rfl (.inl rfl) rfl rfl) (da_cons (de_var (i := 11) rfl (.inl rfl) rfl rfl) (da_cons (de_var (i := 14) rfl (.inl rfl) rfl rfl) (da_cons (de_cal (ps := ["system", "start", "goal"]) C_comes hr rfl (da_cons (de_var (i := 9) rfl (.inl rfl) rfl rfl) (da_cons (de_var (i := 10) rfl (.inl rfl) rfl rfl) (da_cons (de_var (i := 11) rfl (.inl rfl) rfl rfl) (da_nil) rfl) rfl) rfl) rfl rfl rfl) (da_nil) rfl) rfl) rfl) rfl) rfl) rfl rfl rfl) (fun _ => rfl)))))) (ds_cons (ds_ret (de_bl)) (ds_nil)) (ds_nil)) (ds_cons (ds_set (i := 15) (nd rfl) rfl (.inl rfl) (de_callTy (cl_list2 rfl) rfl G.n_list rfl (da_cons (de_ix2 (hr).u (de_ix2 (hr).u (de_var (i := 11) rfl (.inl rfl) rfl rfl) (de_int) (fun _ _ => rfl)) (de_int) (fun _ _ => rfl)) (da_nil) rfl) (by decide) rfl rfl rfl) rfl (.inl rfl)) (ds_cons (ds_for (never rfl) rfl (di_val (de_rev (de_ix2 (hr).u (de_ix2 (hr).u (de_var (i := 11) rfl (.inl rfl) rfl rfl) (de_int) (fun _ _ => rfl)) (de_int) (fun _ _ => rfl)))) (dg_name (i := 6) (nd rfl) rfl (.inl rfl) (.inl rfl)) (ds_cons (ds_if (de_cmpT (opd_in (hr).u true) (de_var (i := 6) rfl (.inl rfl) rfl rfl) (de_var (i := 7) rfl (.inl rfl) rfl rfl) rfl) (ds_cons (ds_brk) (ds_nil)) (ds_nil)) (ds_cons (ds_set (i := 15) (nd rfl) rfl (.inl rfl) (de_cut (de_var (i := 15) rfl (.inl rfl) rfl rfl) (do_none) (do_some (de_un opd_neg (de_int)))) rfl (.inl rfl)) (ds_nil))) (fun _ => rfl)) (ds_cons (ds_set (i := 16) (nd rfl) rfl (.inl rfl) (de_bin opd_add (de_tup (da_cons (de_tup (da_cons (de_tup (da_cons (de_callTy cl_tuple rfl G.n_tuple rfl (da_cons (de_var (i := 15) rfl (.inl rfl) rfl rfl) (da_nil) rfl) (by decide) rfl rfl rfl) (da_nil) rfl)) (da_nil) rfl)) (da_nil) rfl)) (de_bin opd_mul2 (de_tup (da_cons (de_tup (da_nil)) (da_nil) rfl)) (de_bin opd_sub (de_var (i := 4) rfl (.inl rfl) rfl rfl) (de_int)))) rfl (.inl rfl)) (ds_cons (ds_if (PW.pt (dt_or (dt_not (de_tru (de_cal (ps := ["told", "due"]) C__law_same hr rfl (da_cons (de_lst (da_cons (de_cal (ps := ["system", "goal"]) C_ahead hr rfl (da_cons (de_var (i := 9) rfl (.inl rfl) rfl rfl) (da_cons (de_var (i := 11) rfl (.inl rfl) rfl rfl) (da_nil) rfl) rfl) rfl rfl rfl) (da_cons (de_calK (ks := ["goal", "system"]) K0_ahead hr rfl (dk_cons (de_var (i := 11) rfl (.inl rfl) rfl rfl) (dk_cons (de_var (i := 9) rfl (.inl rfl) rfl rfl) (dk_nil))) rfl rfl rfl rfl) (da_nil) rfl) rfl)) (da_cons (de_lst (da_cons (de_var (i := 16) rfl (.inl rfl) rfl rfl) (da_cons (de_var (i := 16) rfl (.inl rfl) rfl rfl) (da_nil) rfl) rfl)) (da_nil) rfl) rfl) rfl rfl rfl) (fun _ => rfl))) (dt_or1 (de_cmpT (opd_ne (hr).u) (de_cal (ps := ["one", "other"]) C__law_strewn hr rfl (da_cons (de_var (i := 15) rfl (.inl rfl) rfl rfl) (da_cons (de_ix2 (hr).u (de_ix2 (hr).u (de_var (i := 10) rfl (.inl rfl) rfl rfl) (de_int) (fun _ _ => rfl)) (de_int) (fun _ _ => rfl)) (da_nil) rfl) rfl) rfl rfl rfl) (de_var (i := 14) rfl (.inl rfl) rfl rfl) rfl)))) (ds_cons (ds_ret (de_bl)) (ds_nil)) (ds_nil)) (ds_cons (ds_if (PW.pt (dt_or (PW.pt (dt_and (de_cmpT (opd_eq (hr).u) (de_var (i := 4) rfl (.inl rfl) rfl rfl) (de_int) rfl) (dt_and1 (de_cmpT (opd_ne (hr).u) (de_ix2 (hr).u (de_cal (ps := ["system", "start", "goal"]) C_comes hr rfl (da_cons (de_var (i := 9) rfl (.inl rfl) rfl rfl) (da_cons (de_var (i := 10) rfl (.inl rfl) rfl rfl) (da_cons (de_tup (da_cons (de_int) (da_cons (de_tup (da_cons (de_tup (da_nil)) (da_nil) rfl)) (da_nil) rfl) rfl)) (da_nil) rfl) rfl) rfl) rfl rfl rfl) (de_int) (fun _ _ => rfl)) (de_str) rfl)))) (dt_or1 (de_cmpT (opd_ne (hr).u) (de_callB (cl_repr (hr).gd (hr).u) rfl G.n_repr rfl (da_cons (de_lst (da_cons (de_var (i := 9) rfl (.inl rfl) rfl rfl) (da_cons (de_var (i := 10) rfl (.inl rfl) rfl rfl) (da_cons (de_var (i := 11) rfl (.inl rfl) rfl rfl) (da_nil) rfl) rfl) rfl)) (da_nil) rfl) (by decide) rfl rfl rfl) (de_var (i := 12) rfl (.inl rfl) rfl rfl) rfl)))) (ds_cons (ds_ret (de_bl)) (ds_nil)) (ds_nil)) (ds_nil)))))))))))))))) (fun _ => rfl)) (ds_nil))) (fun _ => rfl)) (ds_cons (ds_ret (de_bl)) (ds_nil))
end Wk98
set_option Elab.async false
set_option linter.all false
set_option maxRecDepth 100000
set_option maxHeartbeats 1000000
/-! k98: the small defs, over data. -/
namespace K98
open PySem PySem.Spec PyProof.Rows L2 Lk Wk98

abbrev PL (N : List Str) (r : DS) (sp : DSp) : Prop := ∀ ds M q ex, sp ds M q ex → r ex { nx := fun _ M' => Wq q .non M', rt := Wq q } (startD N ds) M
abbrev wD (w : List Int) : D := .tup (w.map .int)
abbrev wsD (ws : List (List Int)) : D := .tup (ws.map wD)
structure Step where
  room : Int
  deed : List Int
  there : Int
  deriving DecidableEq
abbrev stepD (s : Step) : D := .tup [.int s.room, wD s.deed, .int s.there]
structure Sys where
  k : Int
  rooms : Int
  roads : Int
  steps : List Step
abbrev sysD (S : Sys) : D := .tup [.int S.k, .int S.rooms, .int S.roads, .tup (S.steps.map stepD)]
structure Stand where
  room : Int
  words : List (List Int)
abbrev staD (s : Stand) : D := .tup [.int s.room, wsD s.words]
/-! fresh -/
def sp_is_integer : DSp := fun ds M q _ => match ds with
  | [.int _] => q (.bl true) M
  | _ => False
def sp_is_natural : DSp := fun ds M q _ => match ds with
  | [.int i] => q (.bl (decide (0 ≤ i))) M
  | _ => False
def sp_is_below : DSp := fun ds M q _ => match ds with
  | [.int i, .int m] => q (.bl (decide (0 ≤ i) && decide (i < m))) M
  | _ => False
def sp_is_between : DSp := fun ds M q _ => match ds with
  | [.int i, .int l, .int h] => q (.bl (decide (l ≤ i) && decide (i ≤ h))) M
  | _ => False
def sp_is_k : DSp := fun ds M q _ => match ds with
  | [.int i] => q (.bl (decide (1 ≤ i) && decide (i ≤ 3))) M
  | _ => False
theorem pl_is_integer : PL ["value"] r_is_integer sp_is_integer := by
  intro ds M q ex h
  unfold sp_is_integer at h
  split at h; case h_2 => exact h.elim
  simp [r_is_integer, startD, Wq.of h]
theorem pl_is_natural : PL ["value"] (r_is_natural sp_is_integer) sp_is_natural := by
  intro ds M q ex h
  unfold sp_is_natural at h
  split at h; case h_2 => exact h.elim
  simp [r_is_natural, sp_is_integer, startD, Wq.of h]
theorem pl_is_below : PL ["value", "many"] (r_is_below sp_is_natural) sp_is_below := by
  intro ds M q ex h
  unfold sp_is_below at h
  split at h; case h_2 => exact h.elim
  rename_i i m
  by_cases h0 : 0 ≤ i
  · simp [h0] at h; simp [r_is_below, sp_is_natural, startD, h0, Wq.of h] <;> omega
  · simp [h0] at h; simp [r_is_below, sp_is_natural, startD, h0, Wq.of h] <;> omega
theorem pl_is_between : PL ["value", "low", "high"] (r_is_between sp_is_integer) sp_is_between := by
  intro ds M q ex h
  unfold sp_is_between at h
  split at h; case h_2 => exact h.elim
  rename_i i l m
  by_cases h0 : l ≤ i
  · simp [h0] at h; simp [r_is_between, sp_is_integer, startD, h0, Wq.of h] <;> omega
  · simp [h0] at h; simp [r_is_between, sp_is_integer, startD, h0, Wq.of h] <;> omega
theorem pl_is_k : PL ["value"] (r_is_k sp_is_between) sp_is_k := by
  intro ds M q ex h
  unfold sp_is_k at h
  split at h; case h_2 => exact h.elim
  simp [r_is_k, sp_is_between, startD]
  exact Wq.of (by simpa using h)

/-! words -/
def inK (k : Int) (w : List Int) : Bool := w.all fun x => decide (0 ≤ x) && decide (x < k)
def sp_is_letters : DSp := fun ds M q _ => match ds with
  | [.int k, .tup xs] => ∃ w : List Int, xs = w.map D.int ∧ q (.bl (inK k w)) M
  | _ => False
def below (k : Int) : D → Bool
  | .int x => decide (0 ≤ x) && decide (x < k)
  | _ => false
theorem below_all (k : Int) (w : List Int) : (w.map D.int).all (below k) = inK k w := by
  unfold inK; rw [List.all_map]; rfl
theorem pl_is_letters : PL ["k", "value"] (r_is_letters sp_is_below) sp_is_letters := by
  intro ds M q ex h
  unfold sp_is_letters at h
  split at h; case h_2 => exact h.elim
  obtain ⟨w, rfl, h⟩ := h
  rename_i k
  simp [r_is_letters, startD]
  refine ag_all (below k) trivial (fun d q' hd z => ?_) (by rw [below_all]; exact Wq.of h)
  simp at hd
  obtain ⟨x, hx, rfl⟩ := hd
  simpa [gin, sp_is_below, below] using z
end K98
set_option Elab.async false
set_option linter.all false
set_option maxRecDepth 100000
set_option maxHeartbeats 1000000
/-! k98: words strewn in words. -/
namespace K98
open PySem PySem.Spec PyProof.Rows L2 Lk Wk98

theorem get_int {w : List Int} {i : Nat} {d : D} (h : (w.map D.int)[i]? = some d) : ∃ x, w[i]? = some x ∧ d = .int x := by
  rw [List.getElem?_map] at h
  cases e : w[i]? with
  | none => rw [e] at h; cases h
  | some x => rw [e] at h; cases h; exact ⟨x, rfl, rfl⟩
theorem drop_get {α : Type} {w : List α} {i : Nat} {x : α} (h : w[i]? = some x) : w.drop i = x :: w.drop (i + 1) := by
  have hl : i < w.length := by
    rcases Nat.lt_or_ge i w.length with h1 | h1
    · exact h1
    · rw [List.getElem?_eq_none h1] at h; cases h
  rw [List.drop_eq_getElem_cons hl]
  congr 1
  rw [List.getElem?_eq_getElem hl] at h
  exact Option.some.inj h
theorem sub_skip {x y : Int} {u v : List Int} (h : y ≠ x) : (x :: u).Sublist (y :: v) ↔ (x :: u).Sublist v := by
  constructor
  · intro s
    cases s with
    | cons _ t => exact t
    | cons_cons _ t => exact absurd rfl h
  · exact fun s => s.cons _
theorem sub_take {x : Int} {u v : List Int} : (x :: u).Sublist (x :: v) ↔ u.Sublist v := List.cons_sublist_cons
theorem not_sub_nil {x : Int} {u : List Int} : ¬ (x :: u).Sublist [] := fun h => by cases h
def sp_found_in : DSp := fun ds M q _ => match ds with
  | [.tup xs, .tup ys] => ∃ o p : List Int, xs = o.map .int ∧ ys = p.map .int ∧ o.length < sizeLine ∧ (∀ r, (o.Sublist p → ∃ zs, r = .tup zs) → (¬ o.Sublist p → r = .non) → q r M)
  | _ => False
def iv_found (o p : List Int) (M : Mm) (pa : Addr) (i : Nat) (δ : DSt) (M' : Mm) : Prop := ∃ (a : Nat) (x : Option D) (acc : List D), δ = [some (.tup (o.map .int)), some (.tup (p.map .int)), some (.ref pa), some (.int a), x] ∧ M' = mset M pa (.lst acc) ∧ acc.length = i ∧ i ≤ o.length ∧ a ≤ p.length ∧ (o.Sublist p ↔ (o.drop i).Sublist (p.drop a))
def iw_found (o p : List Int) (M : Mm) (pa : Addr) (i : Nat) (z : Int) (acc : List D) (m : Nat) (δ : DSt) (M' : Mm) : Prop := ∃ (a : Nat), δ = [some (.tup (o.map .int)), some (.tup (p.map .int)), some (.ref pa), some (.int a), some (.int z)] ∧ M' = mset M pa (.lst acc) ∧ a ≤ p.length ∧ m = p.length - a ∧ (o.Sublist p ↔ (o.drop i).Sublist (p.drop a))
theorem pl_found_in : PL ["one", "other", "found", "at", "letter"] r_found_in sp_found_in := by
  intro ds M q ex h
  unfold sp_found_in at h
  split at h; case h_2 => exact h.elim
  obtain ⟨o, p, rfl, rfl, hl, h⟩ := h
  simp [r_found_in, startD]
  intro pa hpa
  refine for_by (iv_found o p M pa) ⟨0, none, [], by simp, rfl, rfl, Nat.zero_le _, Nat.zero_le _, by simp⟩ (fun _ _ _ _ => trivial) ?_ ?_
  · rintro i d δ M' hd ⟨a, x, acc, rfl, rfl, ei, hi, ha, hs⟩
    obtain ⟨z, hz, rfl⟩ := get_int hd
    have hi' : i < o.length := by
      rcases Nat.lt_or_ge i o.length with h1 | h1
      · exact h1
      · rw [List.getElem?_eq_none h1] at hz; cases hz
    simp
    refine while_by (iw_found o p M pa i z acc) ⟨a, by simp, rfl, ha, rfl, hs⟩ ?_
    rintro m δ M' ⟨a, rfl, rfl, ha, rfl, hs⟩
    by_cases hlt : a < p.length
    · have ga : (p.map D.int)[a]? = some (.int p[a]) := by rw [List.getElem?_map, List.getElem?_eq_getElem hlt]; rfl
      have hlt' : (a : Int) < p.length := by omega
      have da : p.drop a = p[a] :: p.drop (a + 1) := List.drop_eq_getElem_cons hlt
      by_cases hne : p[a] = z
      · simp [hlt', atI_of ga, hne]
        have hneq : ¬ ((a : Int) = p.length) := by omega
        refine .inl ⟨hneq, ty_ref mset_same, pa, acc, _, rfl, rfl, mset_same, by omega, ?_⟩
        refine Wk.of ⟨a + 1, some (.int z), acc ++ [.int a], by simp, mset_mset, by simp [ei], by omega, by omega, ?_⟩
        rw [hs, drop_get hz, da, hne, sub_take]
      · simp [hlt', atI_of ga, hne]
        refine Wk.of ⟨p.length - (a + 1), by omega, a + 1, by simp, rfl, by omega, rfl, ?_⟩
        rw [hs, drop_get hz, da, sub_skip hne]
    · have hlt' : ¬ (a : Int) < p.length := by omega
      have hEq : (a : Int) = p.length := by omega
      simp [hlt', hEq]
      have hn : ¬ o.Sublist p := by
        rw [hs, drop_get hz, List.drop_of_length_le (show p.length ≤ a by omega)]; exact not_sub_nil
      exact Wq.sub (h .non (fun s => absurd s hn) fun _ => rfl) (.new hpa)
  · rintro δ M' ⟨a, x, acc, rfl, rfl, ei, hi, ha, hs⟩
    simp [u_items_r mset_same]
    have ei : acc.length = o.length := by simpa using ei
    have hy : o.Sublist p := by rw [hs]; simp
    exact Wq.sub (h (.tup acc) (fun _ => ⟨_, rfl⟩) fun n => absurd hy n) (.new hpa)
/-! strewn -/
theorem isB_strewn {r : D} {P : Prop} {b : Bool} (hb : b = true ↔ P) (h1 : P → ∃ zs, r = .tup zs) (h2 : ¬ P → r = .non) : (!isB r .non) = b := by
  cases b with
  | true => obtain ⟨zs, rfl⟩ := h1 (hb.mp rfl); simp [isB]
  | false => rw [h2 (fun z => by have := hb.mpr z; cases this)]; simp [isB]
def sp_strewn_in : DSp := fun ds M q _ => match ds with
  | [.tup xs, .tup ys] => ∃ o p : List Int, xs = o.map .int ∧ ys = p.map .int ∧ o.length < sizeLine ∧ q (.bl (o.isSublist p)) M
  | _ => False
theorem pl_strewn_in : PL ["one", "other"] (r_strewn_in sp_found_in) sp_strewn_in := by
  intro ds M q ex h
  unfold sp_strewn_in at h
  split at h; case h_2 => exact h.elim
  obtain ⟨o, p, rfl, rfl, hl, h⟩ := h
  simp [r_strewn_in, sp_found_in, startD]
  refine ⟨o, rfl, p, rfl, hl, fun r h1 h2 => ?_⟩
  rw [isB_strewn (List.isSublist_iff_sublist (l₁ := o) (l₂ := p)) (fun s => h1 s) h2]
  exact Wq.of h
/-! strewn, the law's own way -/
end K98
set_option Elab.async false
set_option linter.all false
set_option maxRecDepth 100000
set_option maxHeartbeats 1000000
/-! k98: systems and stands that are formed. -/
namespace K98
open PySem PySem.Spec PyProof.Rows L2 Lk Wk98

theorem all_yes {α : Type} (xs : List α) : xs.all (fun _ => true) = true := by simp
def DeedOk (k roads : Int) (d : List Int) : Prop := d = [0] ∨ ∃ s r l, d = [s, r, l] ∧ (s = 1 ∨ s = 2) ∧ 0 ≤ r ∧ r < roads ∧ 0 ≤ l ∧ l < k
def StepOk (k rooms roads : Int) (s : Step) : Prop := (0 ≤ s.room ∧ s.room < rooms) ∧ (0 ≤ s.there ∧ s.there < rooms) ∧ DeedOk k roads s.deed
def AscD (xs : List D) : Prop := ∀ (i : Nat) x y, xs[i]? = some x → xs[i + 1]? = some y → ∃ k l, keyOf x = some k ∧ keyOf y = some l ∧ okK k l = true ∧ k.depth ≤ 60 ∧ ltK k l = true
structure SysOk (S : Sys) : Prop where
  k : 1 ≤ S.k ∧ S.k ≤ 3
  rooms : 1 ≤ S.rooms
  roads : 1 ≤ S.roads ∧ S.roads ≤ 2
  steps : ∀ s ∈ S.steps, StepOk S.k S.rooms S.roads s
  asc : AscD (S.steps.map stepD)
def sp_is_deed : DSp := fun ds M q _ => match ds with
  | [.int k, .int roads, .tup xs] => ∃ d, xs = d.map .int ∧ DeedOk k roads d ∧ q (.bl true) M
  | _ => False
theorem oIn2_13' {M : Mm} {q : Kd} {n : Nat} (h : n = 1 ∨ n = 3) (hq : q (.bl false) M) : oIn2 true (.int n) (.tup [.int 1, .int 3]) M q := by
  refine oIn2_13 ?_
  rcases h with rfl | rfl <;> exact hq
theorem pl_is_deed : PL ["k", "roads", "told"] (r_is_deed sp_is_between) sp_is_deed := by
  intro ds M q ex h
  unfold sp_is_deed at h
  split at h; case h_2 => exact h.elim
  rename_i k roads xs
  obtain ⟨d, rfl, hd, h⟩ := h
  rcases hd with rfl | ⟨s, r, l, rfl, hs, r0, r1, l0, l1⟩
  · simp [r_is_deed, sp_is_between, startD]
    exact oIn2_13 (by simpa using Wq.of h)
  · simp [r_is_deed, sp_is_between, startD]
    refine oIn2_13 ?_
    have s0 : ¬ s = 0 := by omega
    have a1 : 0 ≤ s := by omega
    have a1' : s ≤ 2 := by omega
    have a2 : r ≤ roads - 1 := by omega
    have a3 : l ≤ k - 1 := by omega
    have n1 : ¬ 2 < s := by omega
    have n2 : ¬ roads - 1 < r := by omega
    simp [s0, a1, a1', r0, l0, a2, a3, n1, n2]
    exact Wq.of h
def sp_is_step : DSp := fun ds M q _ => match ds with
  | [.int k, .int rooms, .int roads, d] => ∃ s, d = stepD s ∧ StepOk k rooms roads s ∧ q (.bl true) M
  | _ => False
theorem pl_is_step : PL ["k", "rooms", "roads", "told"] (r_is_step sp_is_between sp_is_deed) sp_is_step := by
  intro ds M q ex h
  unfold sp_is_step at h
  split at h; case h_2 => exact h.elim
  rename_i k rooms roads d
  obtain ⟨s, rfl, ⟨⟨a1, a2⟩, ⟨b1, b2⟩, hd⟩, h⟩ := h
  have a3 : s.room ≤ rooms - 1 := by omega
  have b3 : s.there ≤ rooms - 1 := by omega
  have n1 : ¬ rooms - 1 < s.room := by omega
  have n2 : ¬ rooms - 1 < s.there := by omega
  simp [r_is_step, sp_is_between, sp_is_deed, startD, a1, a3, b1, b3, n1, n2]
  exact ⟨s.deed, rfl, hd, Wq.of h⟩
def sp_is_ascending : DSp := fun ds M q _ => match ds with
  | [.tup xs] => AscD xs ∧ q (.bl true) M
  | _ => False
theorem pl_is_ascending : PL ["some"] r_is_ascending sp_is_ascending := by
  intro ds M q ex h
  unfold sp_is_ascending at h
  split at h; case h_2 => exact h.elim
  rename_i xs
  obtain ⟨ha, h⟩ := h
  simp [r_is_ascending, startD]
  refine ag_all (fun _ => true) ?_ (fun d q' hd z => ?_) ?_
  · trivial
  rotate_left
  · rw [all_yes]; exact Wq.of h
  obtain ⟨i, hi⟩ := List.getElem?_of_mem hd
  obtain ⟨x, y, hx, hy, rfl⟩ := zipD_get _ _ _ _ hi
  have hy' : xs[i + 1]? = some y := by simpa [Nat.add_comm] using hy
  obtain ⟨k, l, e1, e2, ok, hd8, hlt⟩ := ha i x y hx hy'
  simp [gin]
  have g : oLt x y M q' := ⟨k, l, e1, e2, ok, hd8, by rw [hlt]; exact z⟩
  unfold oLt2
  split
  · rename_i a b
    cases e1; cases e2
    have : decide (a < b) = true := by simpa [ltK] using hlt
    rw [this]; exact z
  · exact g
def sp_is_system : DSp := fun ds M q _ => match ds with
  | [d] => ∃ S, d = sysD S ∧ SysOk S ∧ q (.bl true) M
  | _ => False
theorem pl_is_system : PL ["value", "steps", "k", "roads", "rooms"] (r_is_system sp_is_k sp_is_integer sp_is_between sp_is_step sp_is_ascending) sp_is_system := by
  intro ds M q ex h
  unfold sp_is_system at h
  split at h; case h_2 => exact h.elim
  obtain ⟨S, rfl, O, h⟩ := h
  have k1 := O.k.1
  have k2 := O.k.2
  have r1 := O.rooms
  have d1 := O.roads.1
  have d2 := O.roads.2
  have r0 : ¬ S.rooms < 1 := by omega
  have n1 : ¬ 3 < S.k := by omega
  have n2 : ¬ 2 < S.roads := by omega
  simp [r_is_system, sp_is_k, sp_is_integer, sp_is_between, startD, k1, k2, r0, d1, d2, n1, n2]
  refine ag_all (fun _ => true) (by trivial) (fun d q' hd z => ?_) ?_
  · simp at hd
    obtain ⟨s, hs, rfl⟩ := hd
    simp [gin, sp_is_step]
    exact ⟨s, ⟨rfl, rfl, rfl⟩, O.steps s hs, z⟩
  · rw [all_yes]
    exact .inr ⟨rfl, O.asc, Wq.of h⟩
def sp_check_system : DSp := fun ds M q _ => match ds with
  | [d] => ∃ S, d = sysD S ∧ SysOk S ∧ q .non M
  | _ => False
theorem pl_check_system : PL ["system"] (r_check_system sp_is_system) sp_check_system := by
  intro ds M q ex h
  unfold sp_check_system at h
  split at h; case h_2 => exact h.elim
  obtain ⟨S, rfl, O, h⟩ := h
  simp [r_check_system, sp_is_system, startD]
  exact ⟨S, ⟨rfl, rfl, rfl, rfl⟩, O, Wq.of h⟩
/-! stands -/
def WordsOk (k roads : Int) (ws : List (List Int)) : Prop := (ws.length : Int) = roads ∧ ∀ w ∈ ws, inK k w = true
structure StaOk (S : Sys) (s : Stand) : Prop where
  room : 0 ≤ s.room ∧ s.room < S.rooms
  words : WordsOk S.k S.roads s.words
def sp_are_words : DSp := fun ds M q _ => match ds with
  | [d, .tup xs] => ∃ S ws, d = sysD S ∧ xs = ws.map wD ∧ WordsOk S.k S.roads ws ∧ q (.bl true) M
  | _ => False
theorem pl_are_words : PL ["system", "told"] (r_are_words sp_is_letters) sp_are_words := by
  intro ds M q ex h
  unfold sp_are_words at h
  split at h; case h_2 => exact h.elim
  obtain ⟨S, ws, rfl, rfl, ⟨hl, hw⟩, h⟩ := h
  simp [r_are_words, startD, hl]
  refine ag_all (fun _ => true) trivial (fun d q' hd z => ?_) (by rw [all_yes]; exact Wq.of h)
  simp at hd
  obtain ⟨w, hm, rfl⟩ := hd
  simp [gin, sp_is_letters]
  exact ⟨w, rfl, by rw [hw w hm]; exact z⟩
def sp_is_stand_in : DSp := fun ds M q _ => match ds with
  | [d, e] => ∃ S s, d = sysD S ∧ e = staD s ∧ StaOk S s ∧ q (.bl true) M
  | _ => False
theorem pl_is_stand_in : PL ["system", "value"] (r_is_stand_in sp_is_between sp_are_words) sp_is_stand_in := by
  intro ds M q ex h
  unfold sp_is_stand_in at h
  split at h; case h_2 => exact h.elim
  obtain ⟨S, s, rfl, rfl, O, h⟩ := h
  have a1 := O.room.1
  have a2 : s.room ≤ S.rooms - 1 := by have := O.room.2; omega
  have n1 : ¬ S.rooms - 1 < s.room := by omega
  simp [r_is_stand_in, sp_is_between, sp_are_words, startD, a1, a2, n1]
  exact ⟨S, ⟨rfl, rfl, rfl, rfl⟩, s.words, rfl, O.words, Wq.of h⟩
def sp_check_stand : DSp := fun ds M q _ => match ds with
  | [d, e] => ∃ S s, d = sysD S ∧ e = staD s ∧ StaOk S s ∧ q .non M
  | _ => False
theorem pl_check_stand : PL ["system", "stand"] (r_check_stand sp_is_stand_in) sp_check_stand := by
  intro ds M q ex h
  unfold sp_check_stand at h
  split at h; case h_2 => exact h.elim
  obtain ⟨S, s, rfl, rfl, O, h⟩ := h
  simp [r_check_stand, sp_is_stand_in, startD]
  exact ⟨S, ⟨rfl, rfl, rfl, rfl⟩, s, ⟨rfl, rfl⟩, O, Wq.of h⟩
end K98
set_option Elab.async false
set_option linter.all false
set_option maxRecDepth 100000
set_option maxHeartbeats 1000000
/-! k98: leads_on. -/
namespace K98
open PySem PySem.Spec PyProof.Rows L2 Lk Wk98

def belowB (ws vs : List (List Int)) : Bool := (ws.zip vs).all fun p => p.1.isSublist p.2
theorem zip_words : ∀ ws vs : List (List Int), zipD (ws.map wD) (vs.map wD) = (ws.zip vs).map fun p => D.tup [wD p.1, wD p.2]
  | [], _ => by simp [zipD]
  | _ :: _, [] => by simp [zipD]
  | w :: ws, v :: vs => by
    have := zip_words ws vs
    simp [zipD, this]
def pairB (f : List Int → List Int → Bool) : D → Bool := fun _ => true
def sp_are_strewn : DSp := fun ds M q _ => match ds with
  | [.tup xs, .tup ys] => ∃ ws vs : List (List Int), xs = ws.map wD ∧ ys = vs.map wD ∧ (∀ w ∈ ws, w.length < sizeLine) ∧ q (.bl (belowB ws vs)) M
  | _ => False
/-- all(..) over what stands for as -/
theorem ag_allm {α : Type} {n : Nat} {caps : List Nat} {as : List α} {c : α → D} {keep : Mm → Prop} {g : DG} {e : DE} {ex : EK} {δ : DSt} {M : Mm} {q : Kd} (f : α → Bool) (hk : keep M) (he : ∀ a q', a ∈ as → q' (.bl (f a)) M → g (c a) ex (gin n caps δ) M fun δ2 M2 => e ex δ2 M2 q') (h : q (.bl (as.all f)) M) :
    AgD false n caps g e ex δ ⟨as.map c, keep⟩ M q := by
  refine ⟨fun j M' => M' = M ∧ (as.take j).all f = true, ⟨rfl, by simp⟩, fun _ _ z => z.1 ▸ hk, fun j d M' hd z => ?_, fun M' z => ?_⟩
  · obtain ⟨e1, ha⟩ := z
    subst e1
    have hd : (as.map c)[j]? = some d := hd
    rw [List.getElem?_map] at hd
    cases q2 : as[j]? with
    | none => rw [q2] at hd; cases hd
    | some a =>
      rw [q2] at hd; cases hd
      refine he a _ (mem_get q2) ⟨f a, rfl, ?_⟩
      cases q1 : f a with
      | false =>
        rw [if_pos rfl]
        have : as.all f = false := by rw [List.all_eq_false]; exact ⟨a, mem_get q2, by simp [q1]⟩
        rwa [this] at h
      | true =>
        rw [if_neg (by decide)]
        refine Wm.of ⟨rfl, ?_⟩
        rw [take_get q2, List.all_append, ha]; simp [q1]
  · obtain ⟨e1, ha⟩ := z
    subst e1
    have ha : (as.take (as.map c).length).all f = true := ha
    rw [List.length_map, List.take_length] at ha
    rwa [ha] at h
theorem pl_are_strewn : PL ["words", "others"] (r_are_strewn sp_strewn_in) sp_are_strewn := by
  intro ds M q ex h
  unfold sp_are_strewn at h
  split at h; case h_2 => exact h.elim
  obtain ⟨ws, vs, rfl, rfl, hl, h⟩ := h
  simp [r_are_strewn, startD, zip_words]
  refine ag_allm (fun p => p.1.isSublist p.2) trivial (fun p q' hp z => ?_) (Wq.of h)
  obtain ⟨o, v⟩ := p
  simp [gin, sp_strewn_in]
  exact ⟨o, rfl, v, rfl, hl o (List.of_mem_zip hp).1, z⟩
def setR (ws : List (List Int)) (r : Nat) (w : List Int) : List (List Int) := ws.take r ++ [w] ++ ws.drop (r + 1)
def sp_with_word : DSp := fun ds M q _ => match ds with
  | [.tup xs, .int i, d] => ∃ (ws : List (List Int)) (r : Nat) (w : List Int), xs = ws.map wD ∧ i = r ∧ d = wD w ∧ r < ws.length ∧ ws.length < sizeLine ∧ q (wsD (setR ws r w)) M
  | _ => False
theorem cutD_from1 {xs : List D} {k : Nat} : cutD xs (some ((k : Int) + 1)) none = xs.drop (k + 1) := cutD_from (k := k + 1)
theorem pl_with_word : PL ["words", "road", "word"] r_with_word sp_with_word := by
  intro ds M q ex h
  unfold sp_with_word at h
  split at h; case h_2 => exact h.elim
  obtain ⟨ws, r, w, rfl, rfl, rfl, hr, hl, h⟩ := h
  simp [r_with_word, startD, cutD_to, cutD_from1]
  refine ⟨by omega, by omega, ?_⟩
  refine Wq.of ?_
  have e : D.tup ((ws.map wD).take r ++ (wD w :: (ws.map wD).drop (r + 1))) = wsD (setR ws r w) := by
    unfold setR wsD
    rw [List.map_append, List.map_append, List.map_take, List.map_drop, List.append_assoc]; rfl
  rw [e]; exact h
def getR (ws : List (List Int)) (r : Nat) : List Int := ws.getD r []
def ahead (d : List Int) (ws : List (List Int)) : List (List Int) := match d with
  | [s, r, l] => if s = 1 then (if (getR ws r.toNat).getLast? = some l then setR ws r.toNat (getR ws r.toNat).dropLast else ws) else setR ws r.toNat (l :: getR ws r.toNat)
  | _ => ws
def sp_words_ahead : DSp := fun ds M q _ => match ds with
  | [.tup xs, .tup ys] => ∃ (d : List Int) (ws : List (List Int)) (k : Int), xs = d.map .int ∧ ys = ws.map wD ∧ DeedOk k ws.length d ∧ ws.length < sizeLine ∧ (∀ w ∈ ws, w.length < sizeLine) ∧ q (wsD (ahead d ws)) M
  | _ => False
theorem last_eq {w : List Int} {l : Int} : w.drop (w.length - 1) = [l] ↔ w.getLast? = some l := by
  rcases List.eq_nil_or_concat w with rfl | ⟨u, x, rfl⟩
  · simp
  · simp
theorem at_words {ws : List (List Int)} {r : Int} (h0 : 0 ≤ r) (h1 : r < ws.length) : atI (ws.map wD) r = some (wD (getR ws r.toNat)) := by
  obtain ⟨n, rfl⟩ : ∃ n : Nat, r = n := ⟨r.toNat, by omega⟩
  refine atI_of ?_
  rw [List.getElem?_map, List.getElem?_eq_getElem (by omega)]
  simp [getR, List.getElem?_eq_getElem (show n < ws.length by omega)]
theorem getR_mem {ws : List (List Int)} {r : Nat} (h : r < ws.length) : getR ws r ∈ ws := by
  simp [getR, List.getElem?_eq_getElem h]
theorem pl_words_ahead : PL ["deed", "words", "road", "letter", "own"] (r_words_ahead sp_with_word) sp_words_ahead := by
  intro ds M q ex h
  unfold sp_words_ahead at h
  split at h; case h_2 => exact h.elim
  obtain ⟨d, ws, k, rfl, rfl, hd, hl, hw, h⟩ := h
  rcases hd with rfl | ⟨s, r, l, rfl, hs, r0, r1, l0, l1⟩
  · simp [r_words_ahead, startD]
    exact Wq.of h
  · have ha := at_words r0 r1
    have rn : r.toNat < ws.length := by omega
    have hm := hw _ (getR_mem rn)
    generalize hg : getR ws r.toNat = own at *
    simp [r_words_ahead, startD, ha]
    rcases hs with rfl | rfl
    · simp [ahead, hg] at h
      simp
      rw [← List.map_drop]
      refine oEq_ints (w := [l]) ?_
      by_cases hlast : own.getLast? = some l
      · rw [decide_eq_true (last_eq.mpr hlast)]
        rw [if_pos hlast] at h
        refine .inr ⟨rfl, ?_⟩
        exact ⟨ws, r.toNat, own.dropLast, rfl, by omega, by rw [← List.map_dropLast], rn, hl, Wq.of h⟩
      · rw [decide_eq_false (fun z => hlast (last_eq.mp z))]
        rw [if_neg hlast] at h
        exact .inl ⟨rfl, Wq.of h⟩
    · simp [ahead, hg] at h
      simp
      exact ⟨by omega, ws, r.toNat, l :: own, rfl, by omega, rfl, rn, hl, Wq.of h⟩
/-! leads_on -/
def stepB (one other : Stand) (s : Step) : Bool := decide (s.room = one.room) && (decide (s.there = other.room) && belowB (ahead s.deed other.words) one.words)
def leadsB (S : Sys) (one other : Stand) : Bool := S.steps.any (stepB one other)
def Short (s : Stand) : Prop := s.words.length < sizeLine ∧ ∀ w ∈ s.words, w.length + 1 < sizeLine
theorem ahead_short {k roads : Int} {d : List Int} {ws : List (List Int)} (hd : DeedOk k roads d) (h : ∀ w ∈ ws, w.length + 1 < sizeLine) : ∀ w ∈ ahead d ws, w.length < sizeLine := by
  have hb : ∀ w ∈ ws, w.length < sizeLine := fun w hw => by have := h w hw; omega
  have hg : ∀ r : Nat, (getR ws r).length + 1 < sizeLine := fun r => by
    unfold getR
    rw [List.getD_eq_getElem?_getD]
    cases e : ws[r]? with
    | none => show 0 + 1 < sizeLine; decide
    | some w => exact h w (mem_get e)
  have hs : ∀ (r : Nat) (u : List Int), u.length < sizeLine → ∀ w ∈ setR ws r u, w.length < sizeLine := fun r u hu w hw => by
    unfold setR at hw
    simp only [List.mem_append, List.mem_singleton] at hw
    rcases hw with (hw | rfl) | hw
    · exact hb w (List.mem_of_mem_take hw)
    · exact hu
    · exact hb w (List.mem_of_mem_drop hw)
  rcases hd with rfl | ⟨s, r, l, rfl, _⟩
  · exact hb
  · have h3 := hg r.toNat
    unfold ahead
    simp only
    split
    · split
      · exact hs _ _ (by rw [List.length_dropLast]; omega)
      · exact hb
    · exact hs _ _ (by rw [List.length_cons]; omega)
def sp_leads_in : DSp := fun ds M q _ => match ds with
  | [d, e, f] => ∃ S one other, d = sysD S ∧ e = staD one ∧ f = staD other ∧ SysOk S ∧ (other.words.length : Int) = S.roads ∧ Short other ∧ q (.bl (leadsB S one other)) M
  | _ => False
def iv_leads (S : Sys) (one other : Stand) (M : Mm) (i : Nat) (δ : DSt) (M' : Mm) : Prop := ∃ a b c, δ = [some (sysD S), some (staD one), some (staD other), a, b, c] ∧ M' = M ∧ (S.steps.take i).any (stepB one other) = false
theorem get_map {α : Type} {c : α → D} {as : List α} {i : Nat} {d : D} (h : (as.map c)[i]? = some d) : ∃ a, as[i]? = some a ∧ d = c a := by
  rw [List.getElem?_map] at h
  cases e : as[i]? with
  | none => rw [e] at h; cases h
  | some x => rw [e] at h; cases h; exact ⟨x, rfl, rfl⟩
theorem pl_leads_in : PL ["system", "one", "other", "room", "deed", "there"] (r_leads_in sp_are_strewn sp_words_ahead) sp_leads_in := by
  intro ds M q ex h
  unfold sp_leads_in at h
  split at h; case h_2 => exact h.elim
  obtain ⟨S, one, other, rfl, rfl, rfl, O, hr, hsh, h⟩ := h
  simp [r_leads_in, startD]
  refine for_by (iv_leads S one other M) ⟨none, none, none, rfl, rfl, by simp⟩ (fun _ _ _ _ => trivial) ?_ ?_
  · rintro i d δ M' hd ⟨a, b, c, rfl, rfl, ha⟩
    obtain ⟨s, hs, rfl⟩ := get_map hd
    have next : stepB one other s = false → Wk (iv_leads S one other M' (i + 1)) [some (sysD S), some (staD one), some (staD other), some (.int s.room), some (wD s.deed), some (.int s.there)] M' := fun e =>
      Wk.of ⟨_, _, _, rfl, rfl, by rw [take_get hs, List.any_append, ha]; simp [e]⟩
    simp
    by_cases h1 : s.room = one.room
    · by_cases h2 : s.there = other.room
      · simp [h1, h2]
        have hd2 := (O.steps s (mem_get hs)).2.2
        refine ⟨s.deed, other.words, S.k, rfl, rfl, ?_, hsh.1, fun w hw => ?_, ahead s.deed other.words, one.words, rfl, rfl, ?_, ?_⟩
        · rw [hr]; exact hd2
        · have := hsh.2 w hw; omega
        · exact ahead_short hd2 hsh.2
        · cases e : belowB (ahead s.deed other.words) one.words with
          | true =>
            refine .inr ⟨rfl, ?_⟩
            have : leadsB S one other = true := by
              unfold leadsB
              rw [List.any_eq_true]
              exact ⟨s, mem_get hs, by simp [stepB, h1, h2, e]⟩
            rw [this] at h
            exact Wq.of h
          | false =>
            refine .inl ⟨rfl, ?_⟩
            have := next (by simp [stepB, e])
            simpa [h1, h2] using this
      · simp [h1, h2]
        have := next (by simp [stepB, h2])
        simpa [h1] using this
    · simp [h1]
      exact next (by simp [stepB, h1])
  · rintro δ M' ⟨a, b, c, rfl, rfl, ha⟩
    simp
    have : leadsB S one other = false := by
      unfold leadsB
      simpa using ha
    rw [this] at h
    exact Wq.of h
def sp_leads_on : DSp := fun ds M q _ => match ds with
  | [d, e, f] => ∃ S one other, d = sysD S ∧ e = staD one ∧ f = staD other ∧ SysOk S ∧ StaOk S one ∧ StaOk S other ∧ Short other ∧ q (.bl (leadsB S one other)) M
  | _ => False
theorem pl_leads_on : PL ["system", "one", "other"] (r_leads_on sp_check_system sp_check_stand sp_leads_in) sp_leads_on := by
  intro ds M q ex h
  unfold sp_leads_on at h
  split at h; case h_2 => exact h.elim
  obtain ⟨S, one, other, rfl, rfl, rfl, O, O1, O2, hsh, h⟩ := h
  simp [r_leads_on, startD, -List.map_inj_left]
  refine ⟨S, rfl, O, S, one, rfl, rfl, O1, S, other, rfl, rfl, O2, S, one, other, rfl, rfl, rfl, O, O2.words.1, hsh, Wq.of h⟩
end K98
set_option Elab.async false
set_option linter.all false
set_option maxRecDepth 100000
set_option maxHeartbeats 1000000
/-! k98: the draws. -/
namespace K98
open PySem PySem.Spec PyProof.Rows L2 Lk Wk98

def WellO (o : MO) : Prop := ∃ i x : Int, o = .lst [.int i, .int x] ∧ 0 ≤ i ∧ 0 ≤ x ∧ x < 2 ^ 100
theorem mulc {i j : Int} (h1 : -(2 ^ 64) < j) (h2 : j < 2 ^ 64) : MulOk i j := IntMulOk.of_right (intBits_le_64 h1 h2)
theorem mulc' {i j : Int} (h1 : -(2 ^ 64) < i) (h2 : i < 2 ^ 64) : MulOk i j := IntMulOk.of_left (intBits_le_64 h1 h2)
theorem powc {i j : Int} (h0 : 0 ≤ i) (h1 : i < 2 ^ 250) (j0 : 0 ≤ j) (j1 : j ≤ 100) : PowOk i j := by
  refine ⟨j0, ?_⟩
  have h2 : i.natAbs < 2 ^ 250 := by omega
  have h : Builtin.Int.intBits i ≤ 250 := intBits_le h2
  have : (Builtin.Int.intBits i : Int) * j ≤ 250 * 100 := Int.mul_le_mul (by omega) j1 j0 (by decide)
  omega
theorem divc {i j : Int} (h0 : 0 < j) (h1 : j < 2 ^ 64) : CDivW i j := by
  refine ⟨h0, ?_⟩
  have : j.natAbs < 2 ^ 64 := by omega
  have h2 : j.natAbs ≠ 0 := by omega
  have := (Nat.log2_lt h2).mpr this
  omega
def sp__law_take : DSp := fun ds M q _ => match ds with
  | [.ref a, .int m] => ∃ o, M a = some o ∧ WellO o ∧ 1 ≤ m ∧ m < 2 ^ 40 ∧ ∀ r o', 0 ≤ r → r < m → WellO o' → q (.int r) (mset M a o')
  | _ => False
theorem pl__law_take : PL ["well", "many", "found", "mixed"] r__law_take sp__law_take := by
  intro ds M q ex h
  unfold sp__law_take at h
  split at h; case h_2 => exact h.elim
  rename_i a m
  obtain ⟨o, ha, ⟨i, x, rfl, hi, hx, hx2⟩, hm, hm2, h⟩ := h
  by_cases hi0 : 0 < i
  · simp [r__law_take, startD, u_oIx2_r ha, hi0, sSub, ha, ixN]
    refine ⟨by omega, divc (by omega) (by omega), ?_⟩
    exact Wq.of (h _ _ (Int.emod_nonneg _ (by omega)) (Int.emod_lt_of_pos _ (by omega)) ⟨_, _, rfl, Int.ediv_nonneg hi (by omega), hx, hx2⟩)
  · have e1 : ∀ y : Int, mset M a (.lst [.int i, .int y]) a = some (.lst [.int i, .int y]) := fun _ => mset_same
    simp [r__law_take, startD, u_oIx2_r ha, hi0, sSub, ha, ixN, u_oIx2_r (e1 _)]
    generalize hy : (x * 6364136223846793005 + 1442695040888963407) % 10000000000000000000000000331 = y
    have hy0 : 0 ≤ y := by rw [← hy]; exact Int.emod_nonneg _ (by decide)
    have hy1 : y < 10000000000000000000000000331 := by rw [← hy]; exact Int.emod_lt_of_pos _ (by decide)
    refine ⟨mulc (by decide) (by decide), powc (by decide) (by decide) (by decide) (by decide), ?_, divc (by decide) (by decide), divc (by decide) (by decide), by omega, ?_⟩
    · refine IntMulOk.of_bits ?_ ?_ <;> exact Nat.le_trans (intBits_le (k := 100) (by omega)) (by decide)
    · exact Wq.of (h _ _ (Int.emod_nonneg _ (by omega)) (Int.emod_lt_of_pos _ (by omega)) ⟨_, _, rfl, hi, hy0, by omega⟩)
def sp__law_well : DSp := fun ds M q _ => match ds with
  | [.rol xs, .int i] => ∃ ns : List Int, xs = ns.map .int ∧ 0 ≤ i ∧ i < 2 ^ 20 ∧ ∀ p o, M p = none → WellO o → q (.ref p) (mset M p o)
  | _ => False
def iv_well (xs items : List D) (i : Int) (M : Mm) (p p0 : Addr) (n : Nat) (δ : DSt) (M' : Mm) : Prop := ∃ (z : Int) (a b : Option D), δ = [some (.rol xs), some (.int i), some (.int z), a, b] ∧ M' = mset (mset M p (.lst items)) p0 (.lst items) ∧ 0 ≤ z ∧ z < 2 ^ 100
theorem cut_ints {ns : List Int} {lo hi : Option Int} : ∃ ms : List Int, Lk.cutD (ns.map .int) lo hi = ms.map .int := by
  unfold Lk.cutD
  exact ⟨_, by rw [← List.map_drop, ← List.map_take]⟩
theorem cut_len {xs : List D} {k : Nat} : (Lk.cutD xs none (some (k : Int))).length ≤ k := by rw [cutD_to]; simp; omega
theorem pl__law_well : PL ["script", "at", "mixed", "cell", "digits"] r__law_well sp__law_well := by
  intro ds M q ex h
  unfold sp__law_well at h
  split at h; case h_2 => exact h.elim
  rename_i xs i
  obtain ⟨ns, rfl, hi, hi2, h⟩ := h
  simp [r__law_well, startD]
  intro p hp
  obtain ⟨ms, hms⟩ := cut_ints (ns := ns) (lo := none) (hi := some 63)
  have hml : ms.length ≤ 63 := by
    have := cut_len (xs := ns.map .int) (k := 63)
    have e : ((63 : Nat) : Int) = 63 := rfl
    rw [e, hms, List.length_map] at this
    exact this
  rw [hms]
  refine ⟨_, u_lenOf2_r mset_same, ?_⟩
  intro p0 hp0
  refine ⟨_, u_itOf_r mset_same, ?_⟩
  rw [List.length_map]
  refine for_by (iv_well (ns.map .int) (ms.map .int) i M p p0) ⟨_, none, none, rfl, rfl, by omega, by omega⟩ ?_ ?_ ?_
  · rintro n δ M' ⟨z, a, b, rfl, rfl, _⟩
    exact mset_same
  · rintro n d δ M' hd ⟨z, a, b, rfl, rfl, z0, z1⟩
    obtain ⟨y, hy, rfl⟩ := get_int hd
    simp
    refine ⟨mulc (by decide) (by decide), powc (by decide) (by decide) (by decide) (by decide), powc (by decide) (by decide) (by decide) (by decide), ?_⟩
    refine Wk.of ⟨_, _, _, rfl, rfl, Int.emod_nonneg _ (by decide), ?_⟩
    have := Int.emod_lt_of_pos (z * 1103515245 + y % 1000000000000000000000007 + 5) (show (0 : Int) < 10000000000000000000000000331 by decide)
    omega
  · rintro δ M' ⟨z, a, b, rfl, rfl, z0, z1⟩
    simp
    refine ⟨mulc (by decide) (by decide), mulc (by decide) (by decide), powc (by decide) (by decide) (by decide) (by decide), ?_⟩
    generalize hy : (z * 131 + i * 104729 + 29) % 10000000000000000000000000331 = y
    have hy0 : 0 ≤ y := by rw [← hy]; exact Int.emod_nonneg _ (by decide)
    have hy1 : y < 10000000000000000000000000331 := by rw [← hy]; exact Int.emod_lt_of_pos _ (by decide)
    have hs : Sub M (mset (mset M p (.lst (ms.map .int))) p0 (.lst (ms.map .int))) := (Sub.new hp).trans (.new hp0)
    have fin : ∀ (x : Int), 0 ≤ x → ∀ pp, mset (mset M p (.lst (ms.map .int))) p0 (.lst (ms.map .int)) pp = none → Wq q (.ref pp) (mset (mset (mset M p (.lst (ms.map .int))) p0 (.lst (ms.map .int))) pp (.lst [.int x, .int y])) := fun x hx pp hpp =>
      Wq.sub (h pp _ (hs.none hpp) ⟨x, y, rfl, hx, hy0, by omega⟩) (hs.set pp _)
    by_cases hl : i < ns.length
    · have e : atI (ns.map D.int) i = some (.int ns[i.toNat]) := by
        obtain ⟨j, rfl⟩ : ∃ j : Nat, i = j := ⟨i.toNat, by omega⟩
        exact atI_of (by rw [List.getElem?_map, List.getElem?_eq_getElem (by omega)]; rfl)
      refine .inr ⟨hl, _, e, ?_⟩
      simp
      refine ⟨powc (by decide) (by decide) (by decide) (by decide), fun pp hpp => fin _ ?_ pp hpp⟩
      repeat' split
      all_goals omega
    · exact .inl ⟨by omega, fun pp hpp => fin 0 (by decide) pp hpp⟩
end K98
set_option Elab.async false
set_option linter.all false
set_option maxRecDepth 100000
set_option maxHeartbeats 1000000
/-! k98: words that are drawn. -/
namespace K98
open PySem PySem.Spec PyProof.Rows L2 Lk Wk98
def sp__law_word : DSp := fun ds M q _ => match ds with
  | [.ref a, .int k, .int most] => ∃ o, M a = some o ∧ WellO o ∧ 1 ≤ k ∧ k < 100 ∧ 0 ≤ most ∧ most ≤ 5 ∧ ∀ w o', inK k w = true → w.length ≤ most → WellO o' → q (wD w) (mset M a o')
  | _ => False
theorem pl__law_word : PL ["well", "k", "most", "at"] (r__law_word sp__law_take) sp__law_word := by
  intro ds M q ex h
  unfold sp__law_word at h
  split at h; case h_2 => exact h.elim
  rename_i a k most
  obtain ⟨o, ha, ho, k0, k1, m0, m1, h⟩ := h
  simp [r__law_word, startD]
  refine ⟨o, ha, ho, by omega, by omega, fun r o1 r0 r1 ho1 => ?_⟩
  refine ⟨r, rfl, by omega, by omega, ?_⟩
  refine lc_draw (α := Int) (c := D.int) (fun x => 0 ≤ x ∧ x < k) (fun _ => WellO) mset_same ho1 (show r.toNat < 1000 by omega) (fun i M' o' q' hi hM' hw hq => ?_) (fun p xs o' hp hl hP hw => ?_)
  · simp [wipeG]
    exact ⟨o', hM', hw, k0, by omega, fun r2 o2 b0 b1 hw2 => hq r2 o2 ⟨b0, b1⟩ hw2⟩
  · refine ⟨_, u_items_r mset_same, ?_⟩
    rw [mset_mset]
    have hpM : M p = none := by
      rw [mset_ne] at hp
      · exact hp
      · intro e; rw [e, mset_same] at hp; cases hp
    refine Wq.sub (h xs o' ?_ (by omega) hw) (.new ?_)
    · unfold inK; rw [List.all_eq_true]; intro x hx; have := hP x hx; simp [this.1, this.2]
    · rw [mset_ne (ne_none ha hpM).symm]; exact hpM
end K98
set_option Elab.async false
set_option linter.all false
set_option maxRecDepth 100000
set_option maxHeartbeats 1000000
/-! k98: the ways to a goal, where letters are sent alone. -/
namespace K98
open PySem PySem.Spec PyProof.Rows L2 Lk Wk98
theorem itOf_items {M : Mm} {d : D} {xs : List D} (h : itemsOf M d = some xs) : ∃ k, itOf M d = some ⟨xs, k⟩ ∧ k M := by
  cases d <;> simp [itemsOf, lsOf] at h
  case tup ys => subst h; exact ⟨_, rfl, trivial⟩
  case rol ys => subst h; exact ⟨_, rfl, trivial⟩
  case ref a =>
    split at h
    · cases h; rename_i e; exact ⟨_, u_itOf_r e, e⟩
    · cases h
theorem oIx2_items {M : Mm} {d x : D} {xs : List D} {r : Int} {q : Kd} (h : itemsOf M d = some xs) (e : atI xs r = some x) (hq : q x M) : oIx2 d (.int r) M q := by
  cases d <;> simp [itemsOf, lsOf] at h
  case tup ys => subst h; rw [u_oIx2_t]; exact ⟨x, e, hq⟩
  case rol ys => subst h; rw [u_oIx2_l]; exact ⟨x, e, hq⟩
  case ref a =>
    split at h
    · cases h; rename_i e2; rw [u_oIx2_r e2]; exact ⟨x, e, hq⟩
    · cases h
/-- any(..) over what stands for as -/
theorem ag_anym {α : Type} {n : Nat} {caps : List Nat} {as : List α} {c : α → D} {keep : Mm → Prop} {g : DG} {e : DE} {ex : EK} {δ : DSt} {M : Mm} {q : Kd} (f : α → Bool) (hk : keep M) (he : ∀ a q', a ∈ as → q' (.bl (f a)) M → g (c a) ex (gin n caps δ) M fun δ2 M2 => e ex δ2 M2 q') (h : q (.bl (as.any f)) M) :
    AgD true n caps g e ex δ ⟨as.map c, keep⟩ M q := by
  refine ⟨fun j M' => M' = M ∧ (as.take j).any f = false, ⟨rfl, by simp⟩, fun _ _ z => z.1 ▸ hk, fun j d M' hd z => ?_, fun M' z => ?_⟩
  · obtain ⟨e1, ha⟩ := z
    subst e1
    have hd : (as.map c)[j]? = some d := hd
    rw [List.getElem?_map] at hd
    cases q2 : as[j]? with
    | none => rw [q2] at hd; cases hd
    | some a =>
      rw [q2] at hd; cases hd
      refine he a _ (mem_get q2) ⟨f a, rfl, ?_⟩
      cases q1 : f a with
      | true =>
        rw [if_pos rfl]
        have : as.any f = true := by rw [List.any_eq_true]; exact ⟨a, mem_get q2, q1⟩
        rwa [this] at h
      | false =>
        rw [if_neg (by decide)]
        refine Wm.of ⟨rfl, ?_⟩
        rw [take_get q2, List.any_append, ha]; simp [q1]
  · obtain ⟨e1, ha⟩ := z
    subst e1
    have ha : (as.take (as.map c).length).any f = false := ha
    rw [List.length_map, List.take_length] at ha
    rwa [ha] at h
def sp_is_at : DSp := fun ds M q _ => match ds with
  | [b, s] => ∃ (st : Stand) (xs : List D) (own : D) (vs : List (List (List Int))), s = staD st ∧ itemsOf M b = some xs ∧ atI xs st.room = some own ∧ itemsOf M own = some (vs.map wsD) ∧ (∀ v ∈ vs, ∀ w ∈ v, w.length < sizeLine) ∧ q (.bl (vs.any fun v => belowB v st.words)) M
  | _ => False
theorem pl_is_at : PL ["bars", "stand"] (r_is_at sp_are_strewn) sp_is_at := by
  intro ds M q ex h
  unfold sp_is_at at h
  split at h; case h_2 => exact h.elim
  obtain ⟨st, xs, own, vs, rfl, hb, ha, ho, hl, h⟩ := h
  simp [r_is_at, startD]
  refine oIx2_items hb ha ?_
  obtain ⟨k, e, hk⟩ := itOf_items ho
  refine ⟨_, e, ?_⟩
  refine ag_anym (fun v => belowB v st.words) hk (fun v q' hv z => ?_) (Wq.of h)
  simp [gin, sp_are_strewn]
  exact ⟨v, rfl, st.words, rfl, hl v hv, z⟩
end K98
set_option Elab.async false
set_option linter.all false
set_option maxRecDepth 100000
set_option maxHeartbeats 1000000
/-! k98: stands as keys; chains of stands. -/
namespace K98
open PySem PySem.Spec PyProof.Rows L2 Lk Wk98
theorem Lk_Sub_upd {M N : Mm} {p : Addr} {o : MO} (s : Lk.Sub M N) (h : M p = none) : Lk.Sub M (mset N p o) := fun a u e => by
  by_cases q : a = p
  · subst q; rw [h] at e; cases e
  · rw [mset_ne q]; exact s a u e
/-- the stand with one word -/
abbrev st1 (r : Int) (w : List Int) : D := staD ⟨r, [w]⟩
theorem keysOf_ints : ∀ w : List Int, keysOf (w.map D.int) = some (w.map NestedKey.num)
  | [] => by rw [List.map_nil, keysOf]; rfl
  | x :: w => by rw [List.map_cons, keysOf, keyOf, keysOf_ints w]; rfl
theorem key_wD (w : List Int) : keyOf (wD w) = some (.tup (w.map .num)) := by rw [keyOf, keysOf_ints]
def kT (r : Int) (w : List Int) : NestedKey := .tup [.num r, .tup [.tup (w.map .num)]]
theorem key_st1 (r : Int) (w : List Int) : keyOf (st1 r w) = some (kT r w) := by
  show keyOf (.tup [.int r, .tup [wD w]]) = _
  rw [keyOf, keysOf, keysOf, keysOf, keyOf, keyOf, keysOf, keysOf, key_wD]; rfl
theorem num_inj {v w : List Int} (h : v.map NestedKey.num = w.map NestedKey.num) : v = w := (List.map_inj_right (fun x y e => by cases e; rfl)).mp h
theorem kT_inj {r : Int} {v w : List Int} (h : kT r v = kT r w) : v = w := by
  unfold kT at h
  simp at h
  exact num_inj h
theorem depth_nums : ∀ w : List Int, NestedKey.depthAll (w.map .num) = 0
  | [] => rfl
  | x :: w => by rw [List.map_cons, NestedKey.depthAll, depth_nums w]; rfl
theorem depth_kT (r : Int) (w : List Int) : (kT r w).depth ≤ 8 := by
  unfold kT
  rw [NestedKey.depth, NestedKey.depthAll, NestedKey.depthAll, NestedKey.depthAll, NestedKey.depth, NestedKey.depth, NestedKey.depthAll, NestedKey.depthAll, NestedKey.depth, depth_nums]
  decide
theorem same_st1 (r : Int) (v w : List Int) : sameK (st1 r v) (st1 r w) = decide (v = w) := by
  rw [sameK_of (key_st1 r v) (key_st1 r w), decide_eq_decide]
  exact ⟨kT_inj, fun h => h ▸ rfl⟩
/-- the word j letters ahead of the end -/
abbrev cut (w : List Int) (j : Nat) : List Int := w.take (w.length - j)
def chain (r : Int) (w : List Int) (j : Nat) : List (D × D) := (st1 r w, .non) :: (List.range j).map fun i => (st1 r (cut w (i + 1)), st1 r (cut w i))
theorem cut_inj {w : List Int} {i j : Nat} (hi : i ≤ w.length) (hj : j ≤ w.length) (h : cut w i = cut w j) : i = j := by
  have := congrArg List.length h
  simp [cut] at this
  omega
theorem chain_key {r : Int} {w : List Int} {j : Nat} : ∀ p ∈ chain r w j, ∃ i, i ≤ j ∧ p.1 = st1 r (cut w i) := by
  intro p hp
  unfold chain at hp
  rcases List.mem_cons.mp hp with rfl | hp
  · exact ⟨0, by omega, by simp [cut]⟩
  · obtain ⟨i, hi, rfl⟩ := List.mem_map.mp hp
    exact ⟨i + 1, by have := List.mem_range.mp hi; omega, rfl⟩
theorem chain_put {r : Int} {w : List Int} {j : Nat} (h : j + 1 ≤ w.length) : dPut (chain r w j) (st1 r (cut w (j + 1))) (st1 r (cut w j)) = chain r w (j + 1) := by
  unfold dPut
  rw [if_neg]
  · unfold chain
    rw [List.range_succ, List.map_append]; rfl
  · rw [List.any_eq_true]
    rintro ⟨p, hp, e⟩
    obtain ⟨i, hi, e2⟩ := chain_key p hp
    rw [e2, same_st1, decide_eq_true_iff] at e
    have := cut_inj (by omega) h e
    omega
theorem chain_keyOk {r : Int} {w u : List Int} {j : Nat} : KeyOk (chain r w j) (st1 r u) :=
  ⟨⟨_, key_st1 r u, depth_kT r u⟩, .inl ⟨rfl, fun p hp => by obtain ⟨i, _, e⟩ := chain_key p hp; rw [e]; rfl⟩⟩
theorem chain_get0 {r : Int} {w : List Int} {j : Nat} : dGet (chain r w j) (st1 r w) = some .non := by
  unfold dGet chain
  rw [List.find?_cons, same_st1]
  simp
theorem chain_get {r : Int} {w : List Int} {i : Nat} : ∀ {j : Nat}, j ≤ w.length → i + 1 ≤ j → dGet (chain r w j) (st1 r (cut w (i + 1))) = some (st1 r (cut w i))
  | 0, _, h => by omega
  | j + 1, hj, h => by
    have e : chain r w (j + 1) = chain r w j ++ [(st1 r (cut w (j + 1)), st1 r (cut w j))] := by
      unfold chain
      rw [List.range_succ, List.map_append]; rfl
    rw [e]
    unfold dGet
    rw [List.find?_append]
    rcases Nat.lt_or_ge i j with h1 | h1
    · have ih := chain_get (r := r) (w := w) (i := i) (j := j) (by omega) (by omega)
      unfold dGet at ih
      cases e2 : (chain r w j).find? fun p => sameK p.1 (st1 r (cut w (i + 1))) with
      | none => rw [e2] at ih; cases ih
      | some p => rw [e2] at ih; exact ih
    · have hij : i = j := by omega
      subst hij
      have hn : ((chain r w i).find? fun p => sameK p.1 (st1 r (cut w (i + 1)))) = none := by
        rw [List.find?_eq_none]
        intro p hp
        obtain ⟨k, hk, e2⟩ := chain_key p hp
        rw [e2, same_st1, decide_eq_true_iff]
        intro e3
        have := cut_inj (by omega) hj e3
        omega
      rw [hn]
      rw [List.find?_cons, same_st1]
      simp
end K98
set_option Elab.async false
set_option linter.all false
set_option maxRecDepth 100000
set_option maxHeartbeats 2000000
/-! k98: the ways to a goal. -/
namespace K98
open PySem PySem.Spec PyProof.Rows L2 Lk Wk98
structure SendSys (S : Sys) (L : Int → Bool) : Prop where
  ok : SysOk S
  roads : S.roads = 1
  rooms : S.rooms ≤ 2
  len : S.steps.length ≤ 10
  all : ∀ s ∈ S.steps, s.room = 0 ∧ s.there = 0 ∧ (s.deed = [0] ∨ ∃ a, s.deed = [1, 0, a] ∧ L a = true)
  has : ∀ a, L a = true → ∃ s ∈ S.steps, s.deed = [1, 0, a]
def last (r : Int) (L : Int → Bool) (w : List Int) : Nat := if r = 0 then (w.reverse.takeWhile L).length else 0
theorem last_le {r : Int} {L : Int → Bool} {w : List Int} : last r L w ≤ w.length := by
  unfold last
  split
  · have := (List.takeWhile_sublist L (l := w.reverse)).length_le
    rwa [List.length_reverse] at this
  · omega
theorem tw_lt {p : Int → Bool} : ∀ {l : List Int} {j : Nat}, j ≤ (l.takeWhile p).length → (j < (l.takeWhile p).length ↔ ∃ a, l[j]? = some a ∧ p a = true)
  | [], j, h => by simp
  | x :: l, j, h => by
    cases hx : p x with
    | false =>
      rw [List.takeWhile_cons, hx] at h ⊢
      have : j = 0 := by simpa using h
      subst this
      simp [hx]
    | true =>
      rw [List.takeWhile_cons, hx] at h ⊢
      cases j with
      | zero => simp [hx]
      | succ j =>
        have ih := tw_lt (p := p) (l := l) (j := j) (by simpa using h)
        simpa using ih
theorem cut_last {w : List Int} {j : Nat} (h : j ≤ w.length) : (cut w j).getLast? = w.reverse[j]? := by
  rcases Nat.lt_or_ge j w.length with h1 | h1
  · have hc : (cut w j).length = w.length - j := by simp [cut]
    rw [List.getLast?_eq_getElem?, hc, List.getElem?_reverse h1]
    rw [List.getElem?_take]
    rw [if_pos (by omega)]
    congr 1
    omega
  · have : j = w.length := by omega
    subst this
    simp [cut]
theorem last_lt {r : Int} {L : Int → Bool} {w : List Int} {j : Nat} (h : j ≤ last r L w) : j < last r L w ↔ r = 0 ∧ ∃ a, (cut w j).getLast? = some a ∧ L a = true := by
  have hl := Nat.le_trans h last_le
  rw [cut_last hl]
  unfold last at h ⊢
  split
  · rename_i hr
    rw [if_pos hr] at h
    rw [tw_lt h]
    simp [hr]
  · rename_i hr
    constructor
    · intro z; omega
    · exact fun z => absurd z.1 hr
theorem cut_succ {w : List Int} {j : Nat} : cut w (j + 1) = (cut w j).dropLast := by
  unfold cut
  rw [List.dropLast_eq_take, List.take_take, List.length_take]
  congr 1
  omega
def hitB (r : Int) (v : List Int) (s : Step) : Bool := decide (s.there = r) && (match s.deed, v.getLast? with
  | [_, _, a], some b => decide (a = b)
  | _, _ => false)
theorem ahead_hit {S : Sys} {L : Int → Bool} (Z : SendSys S L) {s : Step} (hs : s ∈ S.steps) {r : Int} {v : List Int} : (hitB r v s = true → r = 0 ∧ v ≠ [] ∧ ahead s.deed [v] = [v.dropLast]) ∧ (hitB 0 v s = false → ahead s.deed [v] = [v]) := by
  obtain ⟨h1, h2, h3 | ⟨a, h3, h4⟩⟩ := Z.all s hs
  · unfold hitB
    rw [h2, h3]
    simp [ahead]
  · unfold hitB
    rw [h2, h3]
    simp only [ahead, getR]
    cases e : v.getLast? with
    | none => simp [e]
    | some b =>
      have hne : v ≠ [] := fun hv => by rw [hv] at e; cases e
      by_cases hab : a = b
      · subst hab
        simp only [List.getD_cons_zero, Int.toNat_zero, e]
        refine ⟨fun hh => ⟨by simp at hh; exact hh.symm, hne, by simp [setR]⟩, fun hh => by simp at hh⟩
      · refine ⟨fun hh => by simp [hab] at hh, fun _ => ?_⟩
        have : ¬ b = a := fun z => hab z.symm
        simp [e, this]
theorem any_hit {S : Sys} {L : Int → Bool} (Z : SendSys S L) {r : Int} {w : List Int} {j : Nat} (h : j ≤ last r L w) : S.steps.any (hitB r (cut w j)) = decide (j < last r L w) := by
  rw [Bool.eq_iff_iff, decide_eq_true_iff, last_lt h, List.any_eq_true]
  constructor
  · rintro ⟨s, hs, hh⟩
    obtain ⟨h1, h2, h3 | ⟨a, h3, h4⟩⟩ := Z.all s hs
    · unfold hitB at hh; rw [h3] at hh; simp at hh
    · unfold hitB at hh
      rw [h2, h3] at hh
      cases e : (cut w j).getLast? with
      | none => rw [e] at hh; simp at hh
      | some b => rw [e] at hh; simp at hh; exact ⟨hh.1.symm, b, rfl, hh.2 ▸ h4⟩
  · rintro ⟨hr, a, ha, hL⟩
    obtain ⟨s, hs, hd⟩ := Z.has a hL
    refine ⟨s, hs, ?_⟩
    unfold hitB
    rw [hd, ha, (Z.all s hs).2.1]
    simp [hr]
/-- what lies in the memory meanwhile -/
structure Ws (R : Nat) (M N : Mm) (r : Int) (pb pw pq : Addr) (u : List Int) (kvs : List (D × D)) (wt : List D) : Prop where
  sub : Sub M N
  fb : M pb = none
  fw : M pw = none
  fq : M pq = none
  nbw : pb ≠ pw
  nbq : pb ≠ pq
  nwq : pw ≠ pq
  w : N pw = some (.dct kvs)
  q : N pq = some (.lst wt)
  b : ∃ c : Nat → Addr, N pb = some (.lst ((List.range R).map fun i => .ref (c i))) ∧ ∀ i, i < R → N (c i) = some (.lst (if (i : Int) = r then [wsD [u]] else [])) ∧ c i ≠ pb ∧ c i ≠ pw ∧ c i ≠ pq
section
variable {R : Nat} {M N : Mm} {r : Int} {pb pw pq : Addr} {u : List Int} {kvs : List (D × D)} {wt : List D}
theorem Ws.new (W : Ws R M N r pb pw pq u kvs wt) {p : Addr} {o : MO} (h : N p = none) : Ws R M (mset N p o) r pb pw pq u kvs wt :=
  ⟨W.sub.trans (.new h), W.fb, W.fw, W.fq, W.nbw, W.nbq, W.nwq, keep_new W.w h, keep_new W.q h,
    let ⟨c, h1, h2⟩ := W.b; ⟨c, keep_new h1 h, fun i hi => ⟨keep_new (h2 i hi).1 h, (h2 i hi).2⟩⟩⟩
theorem Ws.wait (W : Ws R M N r pb pw pq u kvs wt) (wt' : List D) : Ws R M (mset N pq (.lst wt')) r pb pw pq u kvs wt' :=
  ⟨Lk_Sub_upd W.sub W.fq, W.fb, W.fw, W.fq, W.nbw, W.nbq, W.nwq, (mset_ne W.nwq).trans W.w, mset_same,
    let ⟨c, h1, h2⟩ := W.b; ⟨c, (mset_ne W.nbq).trans h1, fun i hi => ⟨(mset_ne (h2 i hi).2.2.2).trans (h2 i hi).1, (h2 i hi).2⟩⟩⟩
theorem Ws.ways (W : Ws R M N r pb pw pq u kvs wt) (kvs' : List (D × D)) : Ws R M (mset N pw (.dct kvs')) r pb pw pq u kvs' wt :=
  ⟨Lk_Sub_upd W.sub W.fw, W.fb, W.fw, W.fq, W.nbw, W.nbq, W.nwq, mset_same, (mset_ne W.nwq.symm).trans W.q,
    let ⟨c, h1, h2⟩ := W.b; ⟨c, (mset_ne W.nbw).trans h1, fun i hi => ⟨(mset_ne (h2 i hi).2.2.1).trans (h2 i hi).1, (h2 i hi).2⟩⟩⟩
theorem Ws.bars (W : Ws R M N r pb pw pq u kvs wt) {xs : List D} (hx : N pb = some (.lst xs)) {p : Addr} {u' : List Int} (hp : N p = some (.lst [wsD [u']])) (n1 : p ≠ pb) (n2 : p ≠ pw) (n3 : p ≠ pq) (h0 : 0 ≤ r) : Ws R M (mset N pb (.lst (xs.set r.toNat (.ref p)))) r pb pw pq u' kvs wt := by
  refine ⟨Lk_Sub_upd W.sub W.fb, W.fb, W.fw, W.fq, W.nbw, W.nbq, W.nwq, (mset_ne W.nbw.symm).trans W.w, (mset_ne W.nbq.symm).trans W.q, ?_⟩
  obtain ⟨c, h1, h2⟩ := W.b
  rw [h1] at hx
  cases hx
  refine ⟨fun i => if (i : Int) = r then p else c i, ?_, fun i hi => ?_⟩
  · rw [mset_same]
    congr 2
    refine List.ext_getElem (by simp) fun i h3 h4 => ?_
    rw [List.getElem_set]
    simp
    split
    · rw [if_pos (by omega)]
    · rw [if_neg (by omega)]
  · by_cases hi2 : (i : Int) = r
    · simp only [hi2, if_true]
      exact ⟨(mset_ne n1).trans hp, n1, n2, n3⟩
    · have := h2 i hi
      simp only [hi2, if_false] at this ⊢
      exact ⟨(mset_ne this.2.1).trans this.1, this.2⟩
end
end K98
set_option Elab.async false
set_option linter.all false
set_option maxRecDepth 100000
set_option maxHeartbeats 4000000
/-! k98: ways_to. -/
namespace K98
open PySem PySem.Spec PyProof.Rows L2 Lk Wk98
def barsD (R : Nat) (r : Int) (v : List Int) : D := .tup ((List.range R).map fun (i : Nat) => if (i : Int) = r then .tup [wsD [v]] else .tup [])
def sp_ways_to : DSp := fun ds M q _ => match ds with
  | [d, e] => ∃ S L r w, d = sysD S ∧ SendSys S L ∧ e = st1 r w ∧ 0 ≤ r ∧ r < S.rooms ∧ w.length ≤ 100 ∧
    ∀ M' pw, Lk.Sub M M' → M pw = none → M' pw = some (.dct (chain r w (last r L w))) → q (.tup [barsD S.rooms.toNat r (cut w (last r L w)), .ref pw]) M'
  | _ => False
/-- behind the first lines -/
def iv_w (S : Sys) (L : Int → Bool) (r : Int) (w : List Int) (M : Mm) (pb pw pq : Addr) (m : Nat) (δ : DSt) (N : Mm) : Prop := ∃ (j : Nat) (b5 b6 b7 b8 b9 b10 b11 b12 : Option D) (pend : Bool),
  δ = [some (sysD S), some (st1 r w), some (.ref pb), some (.ref pw), some (.ref pq), b5, b6, b7, b8, b9, b10, b11, b12] ∧ j ≤ last r L w ∧ (pend = false → j = last r L w) ∧ m = (if pend then last r L w - j + 1 else 0) ∧
  Ws S.rooms.toNat M N r pb pw pq (cut w j) (chain r w j) (if pend then [st1 r (cut w j)] else [])
def iv_f (S : Sys) (L : Int → Bool) (r : Int) (w : List Int) (M : Mm) (pb pw pq : Addr) (j i : Nat) (δ : DSt) (N : Mm) : Prop := ∃ (b6 b7 b8 b9 b10 b11 b12 : Option D) (b : Bool),
  δ = [some (sysD S), some (st1 r w), some (.ref pb), some (.ref pw), some (.ref pq), some (st1 r (cut w j)), b6, b7, b8, b9, b10, b11, b12] ∧ b = (S.steps.take i).any (hitB r (cut w j)) ∧
  Ws S.rooms.toNat M N r pb pw pq (if b then cut w (j + 1) else cut w j) (chain r w (if b then j + 1 else j)) (if b then [st1 r (cut w (j + 1))] else [])
theorem ok_nums : ∀ v w : List Int, okKs (v.map .num) (w.map .num) = true
  | [], _ => by rw [List.map_nil, okKs]; intro x xs y ys h; cases h
  | _ :: _, [] => by rw [List.map_nil, okKs]; intro x xs y ys _ h; cases h
  | x :: v, y :: w => by rw [List.map_cons, List.map_cons, okKs, ok_nums v w, okK]; simp
theorem ok_one (v : List Int) : okK (.tup [.tup (v.map .num)]) (.tup [.tup (v.map .num)]) = true := by
  rw [okK, okKs, okKs, okK, ok_nums]
  · simp
  · intro x xs y ys h; cases h
theorem pl_ways_to : PL ["system", "goal", "bars", "ways", "waiting", "stand", "room", "deed", "there", "words", "kept", "_", "own"] (r_ways_to sp_words_ahead sp_is_at sp_are_strewn) sp_ways_to := by
  intro ds M q ex h
  unfold sp_ways_to at h
  split at h; case h_2 => exact h.elim
  obtain ⟨S, L, r, w, rfl, Z, rfl, hr0, hr1, hw, h⟩ := h
  have hR := Z.rooms
  have hR1 := Z.ok.rooms
  simp [r_ways_to, startD]
  refine ⟨by omega, by omega, ?_⟩
  intro p0 hp0
  refine ⟨fun i N => Lk.Sub M N ∧ ∃ c : Nat → Addr, N p0 = some (.lst ((List.range i).map fun i => .ref (c i))) ∧ ∀ k, k < i → N (c k) = some (.lst []) ∧ c k ≠ p0, ⟨.new hp0, fun _ => 0, mset_same, fun k hk => by omega⟩, fun _ _ _ => trivial, fun i d N hd z => ?_, fun N z => ?_⟩
  · obtain ⟨hs, c, h1, h2⟩ := z
    obtain ⟨hi, rfl⟩ := rangeD_get hd
    simp
    intro p1 hp1
    have n01 : p0 ≠ p1 := ne_none h1 hp1
    refine ⟨_, keep_new h1 hp1, ?_, Wm.of ⟨?_, fun k => if k = i then p1 else c k, ?_, fun k hk => ?_⟩⟩
    · rw [List.length_map, List.length_range]; exact Nat.lt_of_lt_of_le (show i < 1000 by omega) sz1000
    · exact Lk_Sub_upd (hs.trans (.new hp1)) hp0
    · rw [mset_same, List.range_succ, List.map_append]
      congr 2
      congr 1
      · refine List.map_congr_left fun k hk => ?_
        have := List.mem_range.mp hk
        show D.ref (c k) = D.ref (if k = i then p1 else c k)
        rw [if_neg (by omega)]
      · simp
    · by_cases hki : k = i
      · subst hki
        simp only [if_true]
        exact ⟨(mset_ne n01.symm).trans mset_same, n01.symm⟩
      · simp only [hki, if_false]
        have := h2 k (by omega)
        exact ⟨(mset_ne this.2).trans (keep_new this.1 hp1), this.2⟩
  · obtain ⟨hs, c, h1, h2⟩ := z
    have h1 : N p0 = some (.lst ((List.range (rangeD 0 S.rooms.toNat).length).map fun i => .ref (c i))) := h1
    have h2 : ∀ k, k < (rangeD 0 S.rooms.toNat).length → N (c k) = some (.lst []) ∧ c k ≠ p0 := h2
    rw [rangeD_length] at h1 h2
    intro pw hpw
    refine ⟨⟨rfl, _, key_st1 r w, depth_kT r w⟩, mset_same, fun pq hpq p1 hp1 => ?_⟩
    rw [mset_mset] at hpq hp1 ⊢
    have a0 : mset N pw (.dct [(st1 r w, .non)]) p0 = _ := keep_new h1 hpw
    have n0w : p0 ≠ pw := ne_none h1 hpw
    have n0q : p0 ≠ pq := ne_none a0 hpq
    have nwq : pw ≠ pq := ne_none mset_same hpq
    have a1 := keep_new (u := .lst [st1 r w]) a0 hpq
    have n01 : p0 ≠ p1 := ne_none a1 hp1
    have a2 := keep_new (u := .lst [wsD [w]]) a1 hp1
    have w1 : mset (mset N pw (.dct [(st1 r w, .non)])) pq (.lst [st1 r w]) pw = some (.dct [(st1 r w, .non)]) := keep_new mset_same hpq
    have nw1 : pw ≠ p1 := ne_none w1 hp1
    have nq1 : pq ≠ p1 := ne_none mset_same hp1
    have w2 := keep_new (u := .lst [wsD [w]]) w1 hp1
    have q2 := keep_new (u := .lst [wsD [w]]) (mset_same (M := mset N pw (.dct [(st1 r w, .non)])) (a := pq) (o := .lst [st1 r w])) hp1
    have s2 : Lk.Sub M (mset (mset (mset N pw (.dct [(st1 r w, .non)])) pq (.lst [st1 r w])) p1 (.lst [wsD [w]])) := ((hs.trans (.new hpw)).trans (.new hpq)).trans (.new hp1)
    have c2 : ∀ k, k < S.rooms.toNat → mset (mset (mset N pw (.dct [(st1 r w, .non)])) pq (.lst [st1 r w])) p1 (.lst [wsD [w]]) (c k) = some (.lst []) ∧ c k ≠ p0 ∧ c k ≠ pw ∧ c k ≠ pq := fun k hk => by
      have := h2 k hk
      have x1 := keep_new (u := .dct [(st1 r w, .non)]) this.1 hpw
      have x2 := keep_new (u := .lst [st1 r w]) x1 hpq
      exact ⟨keep_new x2 hp1, this.2, ne_none this.1 hpw, ne_none x1 hpq⟩
    have v2 : mset (mset (mset N pw (.dct [(st1 r w, .non)])) pq (.lst [st1 r w])) p1 (.lst [wsD [w]]) p1 = some (.lst [wsD [w]]) := mset_same
    have fw : M pw = none := hs.none hpw
    have fq : M pq = none := (hs.trans (.new hpw)).none hpq
    generalize mset (mset (mset N pw (.dct [(st1 r w, .non)])) pq (.lst [st1 r w])) p1 (.lst [wsD [w]]) = N2 at a2 w2 q2 s2 c2 v2 ⊢
    simp [sSub, a2]
    refine ⟨r.toNat, ?_, ?_⟩
    · unfold ixN
      rw [if_pos hr0, if_pos (by omega)]
    have W0 : Ws S.rooms.toNat M (mset N2 p0 (.lst (((List.range S.rooms.toNat).map fun i => D.ref (c i)).set r.toNat (.ref p1)))) r p0 pw pq w (chain r w 0) [st1 r w] := by
      refine ⟨Lk_Sub_upd s2 hp0, hp0, fw, fq, n0w, n0q, nwq, (mset_ne n0w.symm).trans w2, (mset_ne n0q.symm).trans q2, ?_⟩
      refine ⟨fun i => if (i : Int) = r then p1 else c i, ?_, fun i hi => ?_⟩
      · rw [mset_same]
        congr 2
        refine List.ext_getElem (by simp) fun i h3 h4 => ?_
        rw [List.getElem_set]
        simp
        split
        · rw [if_pos (by omega)]
        · rw [if_neg (by omega)]
      · by_cases hi2 : (i : Int) = r
        · simp only [hi2, if_true]
          exact ⟨(mset_ne n01.symm).trans v2, n01.symm, nw1.symm, nq1.symm⟩
        · have := c2 i hi
          simp only [hi2, if_false]
          exact ⟨(mset_ne this.2.1).trans this.1, this.2⟩
    generalize mset N2 p0 (.lst (((List.range S.rooms.toNat).map fun i => D.ref (c i)).set r.toNat (.ref p1))) = N3 at W0 ⊢
    refine while_by (iv_w S L r w M p0 pw pq) ⟨0, _, _, _, _, _, _, _, _, true, rfl, Nat.zero_le _, by simp, rfl, by simpa [cut] using W0⟩ ?_
    rintro m δ N4 ⟨j, b5, b6, b7, b8, b9, b10, b11, b12, pend, rfl, hj, hpend, rfl, W⟩
    simp
    refine ⟨_, u_lenOf2_r W.q, ?_⟩
    cases pend
    · simp
      have hjl : j = last r L w := hpend rfl
      subst hjl
      obtain ⟨c, hb, hc⟩ := W.b
      refine ⟨_, u_itOf_r hb, ?_⟩
      refine lc_mapw (fun d => match d with
        | .ref a => (match N4 a with
          | some (.lst xs) => .tup xs
          | _ => .non)
        | _ => .non) ?_ (fun M' s => s _ _ hb) (fun d q' M1 hd s z => ?_) (fun p hp => ?_)
      · show ((List.range S.rooms.toNat).map _).length ≤ sizeLine
        rw [List.length_map, List.length_range]; exact Nat.le_trans (by omega) sz1000
      · obtain ⟨i, hi, rfl⟩ := List.mem_map.mp hd
        have hci := hc i (List.mem_range.mp hi)
        simp only [hci.1] at z
        simp [wipeG, walkOf, s _ _ hci.1]
        by_cases hir : (i : Int) = r
        · simp only [hir, if_true] at z ⊢
          refine ⟨[.tup [.tup ((cut w (last r L w)).map .num)]], ?_, ⟨?_, ?_⟩, fun p2 ys hp2 hperm _ => ?_⟩
          · show keysOf [D.tup [wD _]] = _
            rw [keysOf, keysOf, keyOf, keysOf, keysOf, key_wD]
          · intro k hk l hl
            rw [List.mem_singleton.mp hk, List.mem_singleton.mp hl]
            exact ok_one _
          · intro k hk
            rw [List.mem_singleton.mp hk]
            rw [NestedKey.depth, NestedKey.depthAll, NestedKey.depthAll, NestedKey.depth, depth_nums]; decide
          · rw [List.perm_singleton.mp hperm]
            exact ⟨_, u_items_r mset_same, z _ (.new hp2)⟩
        · simp only [hir, if_false] at z ⊢
          refine ⟨[], (show keysOf [] = some [] by rw [keysOf]), ⟨by simp, by simp⟩, fun p2 ys hp2 hperm _ => ?_⟩
          rw [List.perm_nil.mp hperm]
          exact ⟨_, u_items_r mset_same, z _ (.new hp2)⟩
      · refine ⟨_, u_items_r mset_same, ?_⟩
        have e : (List.map (fun d => match d with
          | .ref a => (match N4 a with
            | some (.lst xs) => D.tup xs
            | _ => .non)
          | _ => .non) ((List.range S.rooms.toNat).map fun i => D.ref (c i))) = (List.range S.rooms.toNat).map fun (i : Nat) => if (i : Int) = r then .tup [wsD [cut w (last r L w)]] else .tup [] := by
          rw [List.map_map]
          refine List.map_congr_left fun i hi => ?_
          have hci := hc i (List.mem_range.mp hi)
          simp only [Function.comp, hci.1]
          split <;> rfl
        have hq := h N4 pw W.sub W.fw W.w
        unfold barsD at hq
        rw [← e] at hq
        exact Wq.sub hq (.new hp)
    · simp
      have hjl : j ≤ w.length := Nat.le_trans hj last_le
      refine ⟨ty_ref W.q, pq, [st1 r (cut w j)], 0, 0, st1 r (cut w j), rfl, rfl, W.q, by decide, by decide, rfl, rfl, ?_⟩
      have W' := W.wait []
      have e0 : [st1 r (cut w j)].eraseIdx 0 = [] := rfl
      rw [e0]
      generalize mset N4 pq (.lst []) = N5 at W' ⊢
      refine for_by (iv_f S L r w M p0 pw pq j) ⟨_, _, _, _, _, _, _, false, rfl, by simp, by simpa using W'⟩ (fun _ _ _ _ => trivial) ?_ ?_
      · rintro i d δ N6 hd ⟨b6, b7, b8, b9, b10, b11, b12, b, rfl, hb, W⟩
        obtain ⟨s, hs, rfl⟩ := get_map hd
        have hsm := mem_get hs
        have hso := Z.ok.steps s hsm
        obtain ⟨hroom, hthere, _⟩ := Z.all s hsm
        obtain ⟨hh1, hh2⟩ := ahead_hit Z hsm (r := r) (v := cut w j)
        have hwl : (cut w j).length ≤ 100 := by simp [cut]; omega
        simp
        refine ⟨s.deed, [cut w j], S.k, rfl, rfl, ?_, Nat.lt_of_lt_of_le (by simp) sz1000, fun u hu => ?_, ?_⟩
        · have := hso.2.2
          rw [Z.roads] at this
          exact this
        · rw [List.mem_singleton.mp hu]; exact Nat.lt_of_lt_of_le (show _ < 1000 by omega) sz1000
        have hbn : ∀ x : Bool, hitB r (cut w j) s = x → (b || x) = (S.steps.take (i + 1)).any (hitB r (cut w j)) := fun x hx => by
          rw [take_get hs, List.any_append, ← hb, List.any_cons, hx]; simp
        by_cases h0 : s.there = r
        · have hr : r = 0 := by rw [← h0]; exact hthere
          subst hr
          obtain ⟨c, hp0', hc⟩ := W.b
          have hc0 := hc 0 (by omega)
          simp only [Int.ofNat_eq_natCast, Int.natCast_zero, if_true] at hc0
          have hix : atI ((List.range S.rooms.toNat).map fun i => D.ref (c i)) s.room = some (.ref (c 0)) := by
            rw [hroom]
            refine atI_of (i := 0) ?_
            rw [List.getElem?_map, List.getElem?_range (by omega)]; rfl
          have hshort : ∀ v ∈ [[if b = true then cut w (j + 1) else cut w j]], ∀ x ∈ v, x.length < sizeLine := by
            intro v hv x hx
            rw [List.mem_singleton.mp hv] at hx
            rw [List.mem_singleton.mp hx]
            refine Nat.lt_of_lt_of_le (show _ < 1000 from ?_) sz1000
            split <;> simp [cut] <;> omega
          have at_ : ∀ (y : List Int) (q' : Kd), (q' (.bl ((if b = true then cut w (j + 1) else cut w j).isSublist y)) N6) → sp_is_at [.ref p0, .tup [.int s.room, wsD [y]]] N6 q' ex := fun y q' z =>
            ⟨⟨s.room, [y]⟩, _, _, [[if b = true then cut w (j + 1) else cut w j]], rfl, u_items_r hp0', hix, u_items_r hc0.1, hshort, by simpa [belowB] using z⟩
          cases hit : hitB 0 (cut w j) s with
          | false =>
            rw [hh2 hit]
            refine .inr ⟨h0, at_ _ _ ?_⟩
            have : (if b = true then cut w (j + 1) else cut w j).isSublist (cut w j) = true := by
              rw [List.isSublist_iff_sublist]
              split
              · rw [cut_succ]; exact List.dropLast_sublist _
              · exact List.Sublist.refl _
            rw [this]
            have e := hbn false hit
            rw [Bool.or_false] at e
            exact .inr ⟨rfl, Wk.of ⟨_, _, _, _, _, _, _, b, rfl, e, W⟩⟩
          | true =>
            obtain ⟨-, hne, hah⟩ := hh1 hit
            rw [hah, ← cut_succ]
            have e := hbn true hit
            rw [Bool.or_true] at e
            have hjl1 : j + 1 ≤ w.length := by
              rcases Nat.lt_or_ge j w.length with z | z
              · exact z
              · exact absurd (show cut w j = [] by simp [cut]; omega) hne
            refine .inr ⟨h0, at_ _ _ ?_⟩
            cases b with
            | true =>
              have : (if true = true then cut w (j + 1) else cut w j).isSublist (cut w (j + 1)) = true := by
                rw [List.isSublist_iff_sublist, if_pos rfl]; exact List.Sublist.refl _
              rw [this]
              exact .inr ⟨rfl, Wk.of ⟨_, _, _, _, _, _, _, true, rfl, e, W⟩⟩
            | false =>
              have : (if false = true then cut w (j + 1) else cut w j).isSublist (cut w (j + 1)) = false := by
                rw [if_neg (by decide)]
                cases e2 : (cut w j).isSublist (cut w (j + 1)) with
                | false => rfl
                | true =>
                  have := (List.isSublist_iff_sublist.mp e2).length_le
                  simp [cut] at this
                  omega
              rw [this]
              simp only [if_false, Bool.false_eq_true] at hc0 W
              refine .inl ⟨rfl, ?_⟩
              rw [u_oIx2_r hp0']
              refine ⟨_, hix, _, u_itOf_r hc0.1, ?_⟩
              intro p hp
              refine ⟨fun _ N => N = mset N6 p (.lst []), rfl, fun _ _ z => z ▸ keep_new hc0.1 hp, fun k d N hd z => ?_, fun N z => ?_⟩
              · subst z
                have hd : [wsD [cut w j]][k]? = some d := hd
                have hk : d = wsD [cut w j] := by
                  have := mem_get hd
                  exact List.mem_singleton.mp this
                subst hk
                simp [wipeG]
                refine ⟨[cut w (j + 1)], [cut w j], rfl, rfl, fun u hu => ?_, ?_⟩
                · rw [List.mem_singleton.mp hu]; exact Nat.lt_of_lt_of_le (show _ < 1000 by simp [cut]; omega) sz1000
                have : belowB [cut w (j + 1)] [cut w j] = true := by
                  simp only [belowB, List.zip_cons_cons, List.zip_nil_right, List.all_cons, List.all_nil, Bool.and_true]
                  rw [List.isSublist_iff_sublist, cut_succ]; exact List.dropLast_sublist _
                rw [this]
                exact .inr ⟨rfl, Wm.of rfl⟩
              · subst z
                intro p2 hp2
                rw [u_oAdd_r, hroom]
                refine ⟨[], [wsD [cut w (j + 1)]], keep_new mset_same hp2, mset_same, Nat.le_trans (show _ ≤ 1000 by simp) sz1000, fun p3 hp3 => ?_⟩
                have W3 := ((W.new (o := .lst []) hp).new (o := .lst [wsD [cut w (j + 1)]]) hp2).new (o := .lst ([] ++ [wsD [cut w (j + 1)]])) hp3
                have b3 := keep_new (u := .lst ([] ++ [wsD [cut w (j + 1)]])) (keep_new (u := .lst [wsD [cut w (j + 1)]]) (keep_new (u := .lst []) hp0' hp) hp2) hp3
                have n1 : p3 ≠ p0 := (ne_none (keep_new (u := .lst [wsD [cut w (j + 1)]]) (keep_new (u := .lst []) hp0' hp) hp2) hp3).symm
                have n2 : p3 ≠ pw := (ne_none ((W.new (o := .lst []) hp).new (o := .lst [wsD [cut w (j + 1)]]) hp2).w hp3).symm
                have n3 : p3 ≠ pq := (ne_none ((W.new (o := .lst []) hp).new (o := .lst [wsD [cut w (j + 1)]]) hp2).q hp3).symm
                have v3 : mset (mset (mset N6 p (.lst [])) p2 (.lst [wsD [cut w (j + 1)]])) p3 (.lst ([] ++ [wsD [cut w (j + 1)]])) p3 = some (.lst [wsD [cut w (j + 1)]]) := mset_same
                generalize mset (mset (mset N6 p (.lst [])) p2 (.lst [wsD [cut w (j + 1)]])) p3 (.lst ([] ++ [wsD [cut w (j + 1)]])) = N7 at W3 b3 v3 ⊢
                simp only [sSub, b3]
                refine ⟨0, 0, rfl, by unfold ixN; rw [if_pos (by decide), if_pos (by rw [List.length_map, List.length_range]; omega)]; rfl, ?_⟩
                have W4 := W3.bars b3 v3 n1 n2 n3 (Int.le_refl 0)
                rw [show (0 : Int).toNat = 0 from rfl] at W4
                generalize mset N7 p0 (.lst (((List.range S.rooms.toNat).map fun i => D.ref (c i)).set 0 (.ref p3))) = N8 at W4 ⊢
                simp only [W4.w]
                refine ⟨chain_keyOk, Nat.lt_of_lt_of_le (show _ < 1000 by simp [chain]; omega) sz1000, ?_⟩
                rw [show D.tup [D.int 0, wsD [cut w (j + 1)]] = st1 0 (cut w (j + 1)) from rfl, chain_put hjl1]
                have W5 := W4.ways (chain 0 w (j + 1))
                generalize mset N8 pw (.dct (chain 0 w (j + 1))) = N9 at W5 ⊢
                refine ⟨ty_ref W5.q, pq, [], _, rfl, rfl, W5.q, by decide, ?_⟩
                exact Wk.of ⟨_, _, _, _, _, _, _, true, rfl, e, W5.wait _⟩
        · have hf : hitB r (cut w j) s = false := by unfold hitB; rw [decide_eq_false h0]; rfl
          have e := hbn false hf
          rw [Bool.or_false] at e
          exact .inl ⟨h0, Wk.of ⟨_, _, _, _, _, _, _, b, rfl, e, W⟩⟩
      · rintro δ N6 ⟨b6, b7, b8, b9, b10, b11, b12, b, rfl, hb, W⟩
        have hb : b = (S.steps.take (S.steps.map stepD).length).any (hitB r (cut w j)) := hb
        rw [List.length_map, List.take_length, any_hit Z hj] at hb
        show Wk _ _ _
        refine Wk.of ?_
        cases b with
        | true =>
          have hlt : j < last r L w := by simpa using hb.symm
          refine ⟨last r L w - (j + 1) + 1, by omega, j + 1, _, _, _, _, _, _, _, _, true, rfl, by omega, by simp, rfl, W⟩
        | false =>
          have hlt : ¬ j < last r L w := by simpa using hb.symm
          refine ⟨0, by omega, j, _, _, _, _, _, _, _, _, false, rfl, hj, fun _ => by omega, rfl, W⟩
end K98
set_option Elab.async false
set_option linter.all false
set_option maxRecDepth 100000
set_option maxHeartbeats 4000000
/-! k98: runs, barriers. -/
namespace K98
open PySem PySem.Spec PyProof.Rows L2 Lk Wk98
theorem atI_last {α : Type} {xs : List α} {x : α} : atI (xs ++ [x]) (-1) = some x := by
  unfold atI ixN
  rw [if_neg (by decide), if_pos (by rw [List.length_append, List.length_singleton]; omega)]
  have e : (-1 + ((xs ++ [x]).length : Int)).toNat = xs.length := by rw [List.length_append, List.length_singleton]; omega
  show (xs ++ [x])[(-1 + ((xs ++ [x]).length : Int)).toNat]? = some x
  rw [e]; simp
def runL (w : List Int) (n i : Nat) : List D := (List.range (i + 1)).map fun t => st1 0 (cut w (n - t))
theorem runL_succ {w : List Int} {n i : Nat} : runL w n (i + 1) = runL w n i ++ [st1 0 (cut w (n - (i + 1)))] := by
  unfold runL
  rw [List.range_succ, List.map_append]; rfl
theorem runL_last {w : List Int} {n i : Nat} : atI (runL w n i) (-1) = some (st1 0 (cut w (n - i))) := by
  unfold runL
  rw [List.range_succ, List.map_append]
  exact atI_last
abbrev runD (w : List Int) (n : Nat) : D := .tup [.str "run", .tup (runL w n n)]
theorem bars_at {R : Nat} {r : Int} {v : List Int} {i : Int} (h0 : 0 ≤ i) (h1 : i < R) : atI ((List.range R).map fun (i : Nat) => if (i : Int) = r then D.tup [wsD [v]] else .tup []) i = some (if i = r then .tup [wsD [v]] else .tup []) := by
  obtain ⟨k, rfl⟩ : ∃ k : Nat, i = k := ⟨i.toNat, by omega⟩
  refine atI_of ?_
  rw [List.getElem?_map, List.getElem?_range (by omega)]; rfl
def sp_run_from : DSp := fun ds M q _ => match ds with
  | [s, b, .ref pw] => ∃ R v w n, s = st1 0 v ∧ 0 < R ∧ b = barsD R 0 (cut w n) ∧ M pw = some (.dct (chain 0 w n)) ∧ n ≤ w.length ∧ w.length ≤ 100 ∧ (cut w n).isSublist v = true ∧ q (runD w n) M
  | _ => False
def iv_run (s b : D) (w : List Int) (n : Nat) (M : Mm) (pw : Addr) (ws : D) (pf : Addr) (m : Nat) (δ : DSt) (N : Mm) : Prop := ∃ i b5, m = n - i ∧ i ≤ n ∧ δ = [some s, some b, some (.ref pw), some ws, some (.ref pf), b5] ∧ Lk.Sub M N ∧ M pf = none ∧ N pf = some (.lst (runL w n i))
theorem pl_run_from : PL ["start", "bars", "ways", "words", "found", "own"] (r_run_from sp_are_strewn) sp_run_from := by
  intro ds M q ex h
  unfold sp_run_from at h
  split at h; case h_2 => exact h.elim
  rename_i pw
  obtain ⟨R, v, w, n, rfl, hR, rfl, hw, hn, hl, hs, h⟩ := h
  simp [r_run_from, startD]
  unfold barsD
  rw [u_oIx2_t]
  refine ⟨_, bars_at (Int.le_refl 0) (by omega), ?_⟩
  rw [if_pos rfl]
  refine ⟨_, u_itOf_t, ?_⟩
  intro p hp
  refine ⟨fun i N => N = mset M p (.lst (if i = 0 then [] else [wsD [cut w n]])), rfl, fun _ _ _ => trivial, fun k d N hd z => ?_, fun N z => ?_⟩
  · subst z
    have hd : [wsD [cut w n]][k]? = some d := hd
    have hk : k = 0 := by
      rcases Nat.eq_zero_or_pos k with h | h
      · exact h
      · rw [List.getElem?_eq_none (by simp; omega)] at hd; cases hd
    subst hk
    cases hd
    simp [wipeG]
    refine ⟨[cut w n], [v], rfl, rfl, fun u hu => ?_, ?_⟩
    · rw [List.mem_singleton.mp hu]; exact Nat.lt_of_lt_of_le (show _ < 1000 by simp [cut]; omega) sz1000
    have : belowB [cut w n] [v] = true := by simpa [belowB] using hs
    rw [this]
    refine .inr ⟨rfl, [], mset_same, by decide, Wm.of ?_⟩
    rw [mset_mset]; rfl
  · have z : N = mset M p (.lst [wsD [cut w n]]) := z
    subst z
    show oIx2 _ _ _ _
    rw [u_oIx2_r mset_same]
    refine ⟨wsD [cut w n], rfl, ?_⟩
    intro pf hpf
    have hs1 : Lk.Sub M (mset M p (.lst [wsD [cut w n]])) := .new hp
    refine while_by (iv_run (st1 0 v) _ w n M pw _ pf) (m := n) ⟨0, _, rfl, Nat.zero_le _, rfl, hs1.trans (.new hpf), hs1.none hpf, mset_same⟩ ?_
    rintro m δ N ⟨i, b5, rfl, hi, rfl, hsub, hf, hN⟩
    simp
    have hwN := hsub _ _ hw
    rw [u_oIx2_r hN]
    refine ⟨_, runL_last, ?_⟩
    simp only [oIx2, hwN]
    rcases Nat.lt_or_ge i n with hin | hin
    · obtain ⟨k, hk⟩ : ∃ k, n - i = k + 1 := ⟨n - i - 1, by omega⟩
      rw [hk]
      refine ⟨_, chain_keyOk, chain_get hn (by omega), ?_⟩
      refine .inr ⟨rfl, ty_ref hN, ?_⟩
      rw [hN]
      refine ⟨_, _, rfl, runL_last, ?_⟩
      rw [hk]
      refine ⟨_, chain_keyOk, chain_get hn (by omega), ?_⟩
      refine ⟨pf, _, _, rfl, rfl, hN, Nat.lt_of_lt_of_le (show _ < 1000 by simp [runL]; omega) sz1000, ?_⟩
      refine Wk.of ⟨k, by omega, i + 1, _, by omega, by omega, rfl, Lk_Sub_upd hsub hf, hf, ?_⟩
      rw [mset_same, runL_succ, show n - (i + 1) = k by omega]
    · have : i = n := by omega
      subst this
      rw [show i - i = 0 by omega]
      refine ⟨.non, chain_keyOk, ?_, ?_⟩
      · have := chain_get0 (r := 0) (w := w) (j := i)
        simpa [cut] using this
      · refine .inl ⟨rfl, _, u_items_r hN, Wq.sub h hsub⟩
theorem noBls_wD (ws : List (List Int)) : noBls (ws.map wD) = true := by
  induction ws with
  | nil => rfl
  | cons w ws ih => rw [List.map_cons, noBls, noBl, noBls_int, ih]; rfl
theorem dp_ws (ws : List (List Int)) : dpDs (ws.map wD) ≤ 1 := by
  induction ws with
  | nil => exact Nat.zero_le _
  | cons w ws ih =>
    have := dpDs_int w
    simp only [List.map_cons, dpDs, dpD]
    omega
theorem eq_st1 {M : Mm} {q : Kd} {neg : Bool} {r : Int} {v : List Int} (h : q (.bl (if neg then false else true)) M) : oEq neg (st1 r v) (st1 r v) M q := by
  refine oEq_tup (b := true) ?_ ?_ ?_ ?_ (by simp) (by simpa using h)
  · rw [noBls, noBl, noBls, noBls, noBl, noBls_wD]; rfl
  · rw [noBls, noBl, noBls, noBls, noBl, noBls_wD]; rfl
  · have := dp_ws [v]
    simp only [dpDs, dpD] at this ⊢
    omega
  · have := dp_ws [v]
    simp only [dpDs, dpD] at this ⊢
    omega
theorem runL_get {w : List Int} {n i t : Nat} (h : t ≤ i) : (runL w n i)[t]? = some (st1 0 (cut w (n - t))) := by
  unfold runL
  rw [List.getElem?_map, List.getElem?_range (by omega)]; rfl
theorem sta_ok {S : Sys} {L : Int → Bool} (Z : SendSys S L) {r : Int} {w : List Int} (h0 : 0 ≤ r) (h1 : r < S.rooms) (hw : inK S.k w = true) : StaOk S ⟨r, [w]⟩ :=
  ⟨⟨h0, h1⟩, by rw [Z.roads]; rfl, fun u hu => by rw [List.mem_singleton.mp hu]; exact hw⟩
theorem inK_cut {k : Int} {w : List Int} {j : Nat} (h : inK k w = true) : inK k (cut w j) = true := by
  unfold inK at h ⊢
  rw [List.all_eq_true] at h ⊢
  exact fun x hx => h x (List.mem_of_mem_take hx)
theorem short1 {r : Int} {w : List Int} (h : w.length ≤ 100) : Short ⟨r, [w]⟩ := ⟨Nat.lt_of_lt_of_le (by simp) sz1000, fun u hu => by rw [List.mem_singleton.mp hu]; exact Nat.lt_of_lt_of_le (show _ < 1000 by omega) sz1000⟩
theorem cutw_len {w : List Int} {j : Nat} (h : w.length ≤ 100) : (cut w j).length ≤ 100 := by simp [cut]; omega
theorem leads_cut {S : Sys} {L : Int → Bool} (Z : SendSys S L) {w : List Int} {j : Nat} (h : j < last 0 L w) : leadsB S ⟨0, [cut w (j + 1)]⟩ ⟨0, [cut w j]⟩ = true := by
  have ha := any_hit Z (r := 0) (Nat.le_of_lt h)
  rw [decide_eq_true h, List.any_eq_true] at ha
  obtain ⟨s, hs, hh⟩ := ha
  unfold leadsB
  rw [List.any_eq_true]
  refine ⟨s, hs, ?_⟩
  have hA := (ahead_hit Z hs (r := 0) (v := cut w j)).1 hh
  have hS := Z.all s hs
  unfold stepB
  rw [hA.2.2, ← cut_succ]
  simp [hS.1, hS.2.1, belowB]
def sp_is_run : DSp := fun ds M q _ => match ds with
  | [d, s, g, .tup xs] => ∃ S L v w n, d = sysD S ∧ SendSys S L ∧ s = st1 0 v ∧ g = st1 0 w ∧ xs = runL w n n ∧ n = last 0 L w ∧ inK S.k w = true ∧ w.length ≤ 100 ∧ (cut w n).isSublist v = true ∧ q (.bl true) M
  | _ => False
theorem pl_is_run : PL ["system", "start", "goal", "stands"] (r_is_run sp_is_stand_in sp_are_strewn sp_leads_in) sp_is_run := by
  intro ds M q ex h
  unfold sp_is_run at h
  split at h; case h_2 => exact h.elim
  obtain ⟨S, L, v, w, n, rfl, Z, rfl, rfl, rfl, rfl, hw, hl, hs, h⟩ := h
  generalize hn : last 0 L w = n at hs
  simp [r_is_run, startD]
  have e0 : ¬ runL w n n = [] := by simp [runL]
  have g0 : atI (runL w n n) 0 = some (st1 0 (cut w n)) := atI_of (i := 0) (runL_get (Nat.zero_le _))
  have gl : atI (runL w n n) (-1) = some (st1 0 w) := by rw [runL_last]; simp [cut]
  refine .inl ⟨e0, ?_⟩
  refine ag_all (fun _ => true) trivial (fun d q' hd z => ?_) ?_
  · obtain ⟨t, ht, rfl⟩ := List.mem_map.mp hd
    simp [gin]
    exact ⟨S, ⟨0, [cut w (n - t)]⟩, rfl, rfl, sta_ok Z (by decide) Z.ok.rooms (inK_cut hw), z⟩
  rw [all_yes]
  refine .inr ⟨rfl, _, g0, ?_⟩
  simp
  refine ⟨_, g0, ?_⟩
  simp
  refine ⟨[cut w n], [v], rfl, rfl, fun u hu => ?_, ?_⟩
  · rw [List.mem_singleton.mp hu]; exact Nat.lt_of_lt_of_le (show _ < 1000 by have := cutw_len (j := n) hl; omega) sz1000
  have hb : belowB [cut w n] [v] = true := by simpa [belowB] using hs
  rw [hb]
  refine .inr ⟨rfl, _, gl, ?_⟩
  refine eq_st1 ?_
  simp
  rw [zip_two]
  refine ag_allm (fun _ => true) (by trivial) (fun p q' hp z => ?_) (by rw [all_yes]; exact Wq.of h)
  obtain ⟨x, y⟩ := p
  obtain ⟨t, ht⟩ := List.getElem?_of_mem hp
  rw [List.getElem?_zip_eq_some] at ht
  obtain ⟨hx, hy⟩ := ht
  rw [List.getElem?_tail] at hy
  have htl : t + 1 < n + 1 := by
    rcases Nat.lt_or_ge (t + 1) (n + 1) with h1 | h1
    · exact h1
    · rw [List.getElem?_eq_none (by simp [runL]; omega)] at hy; cases hy
  rw [runL_get (by omega)] at hx hy
  cases hx; cases hy
  simp [gin]
  have hsum : n - t = n - (t + 1) + 1 := by omega
  refine ⟨S, ⟨0, [cut w (n - t)]⟩, ⟨0, [cut w (n - (t + 1))]⟩, rfl, rfl, rfl, Z.ok, by rw [Z.roads]; rfl, short1 (cutw_len hl), ?_⟩
  rw [hsum, leads_cut Z (by omega)]
  exact z
end K98
set_option Elab.async false
set_option linter.all false
set_option maxRecDepth 100000
set_option maxHeartbeats 4000000
/-! k98: barriers; ahead, comes, judge_comes. -/
namespace K98
open PySem PySem.Spec PyProof.Rows L2 Lk Wk98
def sp_are_least : DSp := fun ds M q _ => match ds with
  | [.tup xs] => xs.length ≤ 1 ∧ q (.bl true) M
  | _ => False
theorem pl_are_least : PL ["words", "at", "one"] (r_are_least sp_are_strewn) sp_are_least := by
  intro ds M q ex h
  unfold sp_are_least at h
  split at h; case h_2 => exact h.elim
  rename_i xs
  obtain ⟨hl, h⟩ := h
  simp [r_are_least, startD]
  refine for_by (fun i δ N => N = M ∧ ∃ a b, δ = [some (.tup xs), a, b]) ⟨rfl, _, _, rfl⟩ (fun _ _ _ _ => trivial) ?_ ?_
  · rintro i d δ N hd ⟨rfl, a, b, rfl⟩
    obtain ⟨x, hx, rfl⟩ := enumD_get _ _ _ _ hd
    have hi : i < xs.length := by
      rcases Nat.lt_or_ge i xs.length with h1 | h1
      · exact h1
      · rw [List.getElem?_eq_none h1] at hx; cases hx
    have h0 : i = 0 := by omega
    have h1 : xs.length = 1 := by omega
    subst h0
    match xs, h1 with
    | [y], _ =>
    simp [cutD_to]
    have e1 : Lk.cutD [y] none (some 0) = [] := cutD_to (k := 0)
    rw [e1]
    simp
    refine ag_any (fun _ => false) trivial (fun d q' hd z => by cases hd) ?_
    exact .inl ⟨rfl, Wk.of ⟨rfl, _, _, rfl⟩⟩
  · rintro δ N ⟨rfl, a, b, rfl⟩
    simp
    exact Wq.of h
theorem asc1 {xs : List D} (h : xs.length ≤ 1) : AscD xs := fun i x y hx hy => by
  rw [List.getElem?_eq_none (by omega)] at hy; cases hy
def sp_are_bars : DSp := fun ds M q _ => match ds with
  | [d, b] => ∃ S L r v, d = sysD S ∧ SendSys S L ∧ b = barsD S.rooms.toNat r v ∧ inK S.k v = true ∧ q (.bl true) M
  | _ => False
theorem pl_are_bars : PL ["system", "bars", "own"] (r_are_bars sp_are_words sp_is_ascending sp_are_least) sp_are_bars := by
  intro ds M q ex h
  unfold sp_are_bars at h
  split at h; case h_2 => exact h.elim
  obtain ⟨S, L, r, v, rfl, Z, rfl, hv, h⟩ := h
  have hR := Z.ok.rooms
  unfold barsD
  have e1 : max S.rooms 0 = S.rooms := by omega
  simp [r_are_bars, startD, e1]
  refine for_by (fun i δ N => N = M ∧ ∃ a, δ = [some (sysD S), some (barsD S.rooms.toNat r v), a]) ⟨rfl, _, rfl⟩ (fun _ _ _ _ => trivial) ?_ ?_
  · rintro i d δ N hd ⟨rfl, a, rfl⟩
    obtain ⟨k, hk, rfl⟩ := get_map (c := fun (i : Nat) => if (i : Int) = r then D.tup [wsD [v]] else .tup []) hd
    obtain ⟨xs, h1, h2, e⟩ : ∃ xs : List (List (List Int)), xs.length ≤ 1 ∧ (∀ x ∈ xs, WordsOk S.k S.roads x) ∧ (if (k : Int) = r then D.tup [wsD [v]] else .tup []) = .tup (xs.map wsD) := by
      split
      · refine ⟨[[v]], by simp, fun x hx => ?_, rfl⟩
        rw [List.mem_singleton.mp hx]
        exact ⟨by rw [Z.roads]; rfl, fun u hu => by rw [List.mem_singleton.mp hu]; exact hv⟩
      · exact ⟨[], by simp, by simp, rfl⟩
    rw [e]
    simp
    refine ag_allm (c := wsD) (fun _ => true) trivial (fun x q' hx z => ?_) ?_
    · simp [gin]
      exact ⟨S, x, rfl, rfl, h2 x hx, z⟩
    rw [all_yes]
    refine .inr ⟨rfl, ?_⟩
    refine ⟨asc1 (by rw [List.length_map]; exact h1), ?_⟩
    refine .inr ⟨rfl, ?_⟩
    refine ⟨by rw [List.length_map]; exact h1, ?_⟩
    exact .inr ⟨rfl, Wk.of ⟨rfl, _, rfl⟩⟩
  · rintro δ N ⟨rfl, a, rfl⟩
    simp
    exact Wq.of h
def sp_is_closed : DSp := fun ds M q _ => match ds with
  | [d, b] => ∃ S L w, d = sysD S ∧ SendSys S L ∧ b = barsD S.rooms.toNat 0 (cut w (last 0 L w)) ∧ w.length ≤ 100 ∧ q (.bl true) M
  | _ => False
theorem pl_is_closed : PL ["system", "bars", "there", "deed", "room"] (r_is_closed sp_is_at sp_words_ahead) sp_is_closed := by
  intro ds M q ex h
  unfold sp_is_closed at h
  split at h; case h_2 => exact h.elim
  obtain ⟨S, L, w, rfl, Z, rfl, hl, h⟩ := h
  have hR := Z.ok.rooms
  generalize hc : cut w (last 0 L w) = v
  have hvl : v.length ≤ 100 := by rw [← hc]; exact cutw_len hl
  have hsh : ∀ u ∈ [[v]], ∀ x ∈ u, x.length < sizeLine := fun u hu x hx => by
    rw [List.mem_singleton.mp hu] at hx
    rw [List.mem_singleton.mp hx]; exact Nat.lt_of_lt_of_le (show _ < 1000 by omega) sz1000
  simp [r_is_closed, startD]
  refine for_by (fun i δ N => N = M ∧ ∃ a b c, δ = [some (sysD S), some (barsD S.rooms.toNat 0 v), a, b, c]) ⟨rfl, _, _, _, rfl⟩ (fun _ _ _ _ => trivial) ?_ ?_
  · rintro i d δ N hd ⟨rfl, a, b, c, rfl⟩
    obtain ⟨s, hs, rfl⟩ := get_map hd
    have hsm := mem_get hs
    obtain ⟨hroom, hthere, _⟩ := Z.all s hsm
    have hno : hitB 0 v s = false := by
      have := any_hit Z (r := 0) (w := w) (Nat.le_refl _)
      rw [hc] at this
      simp at this
      simpa using this s hsm
    have hah := (ahead_hit Z hsm (r := 0) (v := v)).2 hno
    simp [hthere]
    have hb0 : atI ((List.range S.rooms.toNat).map fun (i : Nat) => if (i : Int) = 0 then D.tup [wsD [v]] else .tup []) 0 = some (.tup [wsD [v]]) := by
      rw [bars_at (by decide) (by omega)]; rfl
    unfold barsD
    rw [u_oIx2_t]
    refine ⟨_, hb0, _, u_itOf_t, ?_⟩
    refine ag_all (fun _ => true) trivial (fun d q' hd z => ?_) ?_
    · have hd : d ∈ [wsD [v]] := hd
      rw [List.mem_singleton.mp hd]
      simp [gin]
      refine ⟨s.deed, [v], S.k, rfl, rfl, ?_, Nat.lt_of_lt_of_le (by simp) sz1000, fun u hu => ?_, ?_⟩
      · have := (Z.ok.steps s hsm).2.2
        rw [Z.roads] at this
        exact this
      · rw [List.mem_singleton.mp hu]; exact Nat.lt_of_lt_of_le (show _ < 1000 by omega) sz1000
      · rw [hah]
        refine ⟨⟨s.room, [v]⟩, _, .tup [wsD [v]], [[v]], rfl, rfl, by rw [hroom]; simpa using hb0, rfl, hsh, ?_⟩
        have : ([[v]].any fun u => belowB u [v]) = true := by simp [belowB]
        rw [this]; exact z
    · rw [all_yes]
      exact .inr ⟨rfl, Wk.of ⟨rfl, _, _, _, rfl⟩⟩
  · rintro δ N ⟨rfl, a, b, c, rfl⟩
    simp
    exact Wq.of h
def sp_ahead : DSp := fun ds M q _ => match ds with
  | [d, e] => ∃ S L r w, d = sysD S ∧ SendSys S L ∧ e = st1 r w ∧ 0 ≤ r ∧ r < S.rooms ∧ inK S.k w = true ∧ w.length ≤ 100 ∧
    q (barsD S.rooms.toNat r (cut w (last r L w))) M
  | _ => False
theorem pl_ahead : PL ["system", "goal"] (r_ahead sp_check_system sp_check_stand sp_ways_to) sp_ahead := by
  intro ds M q ex h
  unfold sp_ahead at h
  split at h; case h_2 => exact h.elim
  obtain ⟨S, L, r, w, rfl, Z, rfl, h0, h1, hw, hl, h⟩ := h
  simp [r_ahead, startD, -List.map_inj_left]
  refine ⟨S, rfl, Z.ok, S, ⟨r, [w]⟩, rfl, rfl, sta_ok Z h0 h1 hw, S, L, r, w, rfl, Z, rfl, h0, h1, hl, fun M' pw s f hp => ?_⟩
  simp
  exact Wq.sub h s
def comesD (S : Sys) (r : Int) (L : Int → Bool) (v w : List Int) : D := if r = 0 ∧ (cut w (last r L w)).isSublist v = true then runD w (last r L w) else .tup [.str "barrier", barsD S.rooms.toNat r (cut w (last r L w))]
def sp_comes : DSp := fun ds M q _ => match ds with
  | [d, s, e] => ∃ S L r v w, d = sysD S ∧ SendSys S L ∧ s = st1 0 v ∧ e = st1 r w ∧ 0 ≤ r ∧ r < S.rooms ∧ inK S.k v = true ∧ v.length ≤ 100 ∧ inK S.k w = true ∧ w.length ≤ 100 ∧
    q (comesD S r L v w) M
  | _ => False
theorem at_bars {S : Sys} {L : Int → Bool} (Z : SendSys S L) {M : Mm} {r : Int} {u v : List Int} {q : Kd} {ex : EK} (h0 : 0 ≤ r) (hu : u.length ≤ 100) (hq : q (.bl (decide (r = 0) && u.isSublist v)) M) : sp_is_at [barsD S.rooms.toNat r u, st1 0 v] M q ex := by
  have hR := Z.ok.rooms
  by_cases hr : r = 0
  · refine ⟨⟨0, [v]⟩, _, .tup [wsD [u]], [[u]], rfl, rfl, ?_, rfl, fun x hx y hy => ?_, ?_⟩
    · show atI _ (0 : Int) = _
      rw [bars_at (by decide) (by omega), if_pos hr.symm]
    · rw [List.mem_singleton.mp hx] at hy
      rw [List.mem_singleton.mp hy]; exact Nat.lt_of_lt_of_le (show _ < 1000 by omega) sz1000
    · simpa [belowB, hr] using hq
  · refine ⟨⟨0, [v]⟩, _, .tup [], [], rfl, rfl, ?_, rfl, (fun x hx y hy => by cases hx), ?_⟩
    · show atI _ (0 : Int) = _
      rw [bars_at (by decide) (by omega), if_neg (fun e => hr e.symm)]
    · simpa [hr] using hq
theorem pl_comes : PL ["system", "start", "goal", "bars", "ways"] (r_comes sp_check_system sp_check_stand sp_ways_to sp_is_at sp_run_from) sp_comes := by
  intro ds M q ex h
  unfold sp_comes at h
  split at h; case h_2 => exact h.elim
  obtain ⟨S, L, r, v, w, rfl, Z, rfl, rfl, h0, h1, hv, hvl, hw, hl, h⟩ := h
  have hR := Z.ok.rooms
  simp [r_comes, startD, -List.map_inj_left]
  refine ⟨S, rfl, Z.ok, S, ⟨0, [v]⟩, rfl, rfl, sta_ok Z (by decide) (by omega) hv, S, ⟨r, [w]⟩, rfl, rfl, sta_ok Z h0 h1 hw, S, L, r, w, rfl, Z, rfl, h0, h1, hl, fun M' pw s f hp => ?_⟩
  simp
  refine at_bars Z h0 (cutw_len hl) ?_
  unfold comesD at h
  by_cases hc : r = 0 ∧ (cut w (last r L w)).isSublist v = true
  · obtain ⟨rfl, hs⟩ := hc
    rw [if_pos ⟨rfl, hs⟩] at h
    simp only [hs, decide_true, Bool.and_true]
    exact .inr ⟨rfl, S.rooms.toNat, v, w, _, rfl, by omega, rfl, hp, last_le, hl, hs, Wq.sub h s⟩
  · rw [if_neg hc] at h
    have : (decide (r = 0) && (cut w (last r L w)).isSublist v) = false := by
      rw [Bool.and_eq_false_iff]
      by_cases hr : r = 0
      · right
        cases e : (cut w (last r L w)).isSublist v with
        | false => rfl
        | true => exact absurd ⟨hr, e⟩ hc
      · left; simp [hr]
    rw [this]
    exact .inl ⟨rfl, Wq.sub h s⟩
def sp_judge_comes : DSp := fun ds M q _ => match ds with
  | [d, s, e, c] => ∃ S L v w, d = sysD S ∧ SendSys S L ∧ s = st1 0 v ∧ e = st1 0 w ∧ c = comesD S 0 L v w ∧ inK S.k v = true ∧ v.length ≤ 100 ∧ inK S.k w = true ∧ w.length ≤ 100 ∧
    q (.bl true) M
  | _ => False
theorem pl_judge_comes : PL ["system", "start", "goal", "value"] (r_judge_comes sp_check_system sp_check_stand sp_is_run sp_are_bars sp_is_at sp_is_closed) sp_judge_comes := by
  intro ds M q ex h
  unfold sp_judge_comes at h
  split at h; case h_2 => exact h.elim
  obtain ⟨S, L, v, w, rfl, Z, rfl, rfl, rfl, hv, hvl, hw, hl, h⟩ := h
  have hR := Z.ok.rooms
  unfold comesD
  by_cases hc : (cut w (last 0 L w)).isSublist v = true
  · rw [if_pos ⟨rfl, hc⟩]
    simp [r_judge_comes, startD, -List.map_inj_left]
    refine ⟨S, rfl, Z.ok, S, ⟨0, [v]⟩, rfl, rfl, sta_ok Z (by decide) (by omega) hv, S, ⟨0, [w]⟩, rfl, rfl, sta_ok Z (by decide) (by omega) hw, S, L, v, w, _, rfl, Z, rfl, rfl, rfl, rfl, hw, hl, hc, Wq.of h⟩
  · rw [if_neg (fun z => hc z.2)]
    simp [r_judge_comes, startD, -List.map_inj_left]
    refine ⟨S, rfl, Z.ok, S, ⟨0, [v]⟩, rfl, rfl, sta_ok Z (by decide) (by omega) hv, S, ⟨0, [w]⟩, rfl, rfl, sta_ok Z (by decide) (by omega) hw, ?_⟩
    refine .inl ⟨by decide, S, L, 0, _, rfl, Z, rfl, inK_cut hw, ?_⟩
    refine .inr ⟨rfl, at_bars Z (by decide) (cutw_len hl) ?_⟩
    have hcw : (cut w (last 0 L w)).isSublist w = true := List.isSublist_iff_sublist.mpr (List.take_sublist _ _)
    rw [hcw]
    refine .inr ⟨rfl, at_bars Z (by decide) (cutw_len hl) ?_⟩
    have hc2 : (cut w (last 0 L w)).isSublist v = false := Bool.eq_false_iff.mpr hc
    rw [hc2]
    exact .inl ⟨rfl, S, L, w, rfl, Z, rfl, hl, Wq.of h⟩
end K98
set_option Elab.async false
set_option linter.all false
set_option maxRecDepth 100000
set_option maxHeartbeats 4000000
/-! k98: products. -/
namespace K98
open PySem PySem.Spec PyProof.Rows L2 Lk Wk98
inductive At where
  | one (a : Int)
  | any (ls : List Int)
  deriving DecidableEq
abbrev atD : At → D
  | .one a => .tup [.str "one", .int a]
  | .any ls => .tup [.str "any", wD ls]
abbrev atsD (p : List At) : D := .tup (p.map atD)
def fitsB (a b : At) : Bool := match b with
  | .one y => match a with
    | .one x => decide (x = y)
    | .any _ => false
  | .any ls => match a with
    | .one x => decide (x ∈ ls)
    | .any ks => ks.all fun k => decide (k ∈ ls)
def isAny : At → Bool
  | .one _ => false
  | .any _ => true
def sp_fits : DSp := fun ds M q _ => match ds with
  | [x, y] => ∃ a b, x = atD a ∧ y = atD b ∧ q (.bl (fitsB a b)) M
  | _ => False
theorem ne1 : ¬ (Str.ofString "any" : Str) = Str.ofString "one" := by decide
theorem ne2 : ¬ (Str.ofString "one" : Str) = Str.ofString "any" := by decide
theorem ok1 : PyData.strOk (Str.ofString "one") = true := by decide +kernel
theorem ok2 : PyData.strOk (Str.ofString "any") = true := by decide +kernel
theorem okT_at (a : At) : okT (atD a) = true := by
  cases a with
  | one x => show okTs [.str "one", .int x] = true; rw [okTs, okTs, okTs, okT, okT, ok1]; rfl
  | any ls => show okTs [.str "any", wD ls] = true; rw [okTs, okTs, okTs, okT, okT, ok2, okTs_int]; rfl
theorem dp_at (a : At) : dpD (atD a) ≤ 2 := by
  cases a with
  | one x => simp [dpD, dpDs]
  | any ls => simp [dpD, dpDs, dpDs_int]
theorem atD_inj {a b : At} (h : atD a = atD b) : a = b := by
  cases a <;> cases b <;> simp at h
  · rw [h]
  · rw [(List.map_inj_right (fun x y e => by cases e; rfl)).mp h]
theorem atsD_inj {p q : List At} (h : p.map atD = q.map atD) : p = q := (List.map_inj_right (fun x y e => atD_inj e)).mp h
theorem pl_fits : PL ["atom", "other"] r_fits sp_fits := by
  intro ds M q ex h
  unfold sp_fits at h
  split at h; case h_2 => exact h.elim
  obtain ⟨a, b, rfl, rfl, h⟩ := h
  cases b with
  | one y =>
    cases a with
    | one x =>
      simp [r_fits, startD]
      refine oEqT (b := decide (x = y)) (okT_at (.one x)) (okT_at (.one y)) (by have := dp_at (.one x); simp only [dpD] at this; omega) (by have := dp_at (.one y); simp only [dpD] at this; omega) (by simp) ?_
      exact Wq.of h
    | any ls =>
      simp [r_fits, startD]
      refine oEqT (b := false) (okT_at (.any ls)) (okT_at (.one y)) (by have := dp_at (.any ls); simp only [dpD] at this; omega) (by have := dp_at (.one y); simp only [dpD] at this; omega) (by simp [ne1]) ?_
      exact Wq.of h
  | any ls =>
    cases a with
    | one x =>
      simp [r_fits, startD, ne1]
      refine ag_all (fun _ => decide (x ∈ ls)) trivial (fun d q' hd z => ?_) ?_
      · rw [List.mem_singleton.mp (show d ∈ [D.int x] from hd)]
        simp [gin]
        exact oIn_ints z
      · have : [D.int x].all (fun _ => decide (x ∈ ls)) = fitsB (.one x) (.any ls) := by simp [fitsB]
        rw [this]; exact Wq.of h
    | any ks =>
      simp [r_fits, startD, ne1]
      refine ag_allm (fun k => decide (k ∈ ls)) trivial (fun k q' hd z => ?_) (Wq.of h)
      simp [gin]
      exact oIn_ints z
def takesB (star a : At) : Bool := isAny star && fitsB a star
def sp_takes_up : DSp := fun ds M q _ => match ds with
  | [x, y] => ∃ a b, x = atD a ∧ y = atD b ∧ q (.bl (takesB a b)) M
  | _ => False
theorem pl_takes_up : PL ["star", "atom"] (r_takes_up sp_fits) sp_takes_up := by
  intro ds M q ex h
  unfold sp_takes_up at h
  split at h; case h_2 => exact h.elim
  obtain ⟨a, b, rfl, rfl, h⟩ := h
  cases a with
  | one x =>
    simp [r_takes_up, startD, ne2]
    exact Wq.of h
  | any ls =>
    simp [r_takes_up, startD, sp_fits]
    exact ⟨b, rfl, .any ls, rfl, Wq.of (by simpa [takesB, isAny] using h)⟩
/-- what an atom leaves of those ahead of it -/
def leftB (atoms : List At) (a : At) : List At := (atoms.reverse.dropWhile fun x => takesB a x).reverse
def topB (atoms : List At) (a : At) : Bool := match atoms.getLast? with
  | some l => takesB l a
  | none => false
def putB (atoms : List At) (a : At) : List At := if topB atoms a = true then atoms else leftB atoms a ++ [a]
theorem leftB_nil (a : At) : leftB [] a = [] := rfl
theorem leftB_snoc (u : List At) (l a : At) : leftB (u ++ [l]) a = if takesB a l = true then leftB u a else u ++ [l] := by
  unfold leftB
  rw [List.reverse_append]
  show (List.dropWhile _ (l :: u.reverse)).reverse = _
  rw [List.dropWhile_cons]
  split
  · rfl
  · simp
def sp_put_behind : DSp := fun ds M q _ => match ds with
  | [x, y] => ∃ p a, x = atsD p ∧ y = atD a ∧ p.length < 900 ∧ q (atsD (putB p a)) M
  | _ => False
def iv_put (p : List At) (a : At) (M : Mm) (m : Nat) (δ : DSt) (N : Mm) : Prop := ∃ u, m = u.length ∧ N = M ∧ δ = [some (atsD u), some (atD a)] ∧ leftB p a = leftB u a ∧ u.length < 900
theorem snoc_cases {α : Type} (p : List α) : p = [] ∨ ∃ u l, p = u ++ [l] := by
  rcases List.eq_nil_or_concat p with h | ⟨u, l, h⟩
  · exact .inl h
  · exact .inr ⟨u, l, by simpa using h⟩
theorem atI_snoc (u : List At) (l : At) : atI ((u ++ [l]).map atD) (-1) = some (atD l) := by
  rw [List.map_append]; exact atI_last
theorem leftB_len (p : List At) (a : At) : (leftB p a).length ≤ p.length := by
  unfold leftB
  rw [List.length_reverse]
  have := (List.dropWhile_sublist (fun x => takesB a x) (l := p.reverse)).length_le
  rwa [List.length_reverse] at this
theorem pl_put_behind : PL ["atoms", "atom"] (r_put_behind sp_takes_up) sp_put_behind := by
  intro ds M q ex h
  unfold sp_put_behind at h
  split at h; case h_2 => exact h.elim
  obtain ⟨p, a, rfl, rfl, hl, h⟩ := h
  have loop : leftB p a ++ [a] = putB p a → ∀ (ex : EK) (K : DEnds), K.rt = Wq q → rWhile (rAnd (rTB (rBin oGt (rArg bLen2 (rCons (rVar 0) rNil)) (rCst (.int 0)))) (rTru (rCall sp_takes_up 2 (rCons (rVar 1) (rCons (rBin oIx2 (rVar 0) (rUn oNeg (rCst (.int 1)))) rNil))))) (rSeq (rAsg (rCut (rVar 0) rNoP (rPart (rUn oNeg (rCst (.int 1))))) (rgName 0)) rNext) ex { K with nx := (rSeq (rRet (rBin oAdd (rVar 0) (rTup (rCons (rVar 1) rNil)))) rNext) ex K } [some (atsD p), some (atD a)] M := by
    intro hp ex K hK
    refine while_by (iv_put p a M) ⟨p, rfl, rfl, rfl, rfl, hl⟩ ?_
    rintro m δ N ⟨u, rfl, rfl, rfl, hu, hul⟩
    have fin : leftB p a = u → Wq q (.tup (u.map atD ++ [atD a])) N := fun e => by
      rw [← hp, e] at h
      have : atsD (u ++ [a]) = .tup (u.map atD ++ [atD a]) := by simp
      rw [this] at h
      exact Wq.of h
    have hsz : u.length + 1 ≤ sizeLine := Nat.le_trans (by omega) sz1000
    rcases snoc_cases u with rfl | ⟨v, l, rfl⟩
    · simp [hK]
      exact fin (by rw [hu, leftB_nil])
    · simp [-List.map_append, atI_snoc]
      refine ⟨a, l, rfl, rfl, ?_⟩
      rw [leftB_snoc] at hu
      cases ht : takesB a l with
      | true =>
        rw [if_pos ht] at hu
        refine .inr ⟨rfl, Wk.of ⟨v.length, by simp, v, rfl, rfl, ?_, hu, by simp at hul; omega⟩⟩
        simp
      | false =>
        rw [if_neg (by rw [ht]; decide)] at hu
        refine .inl ⟨rfl, ?_⟩
        rw [hK]
        refine ⟨by simpa using hsz, fin hu⟩
  rcases snoc_cases p with rfl | ⟨u, l, rfl⟩
  · have := loop rfl
    simp [r_put_behind, startD]
    exact this ex _ rfl
  · simp [r_put_behind, startD, -List.map_append, atI_snoc]
    refine ⟨l, a, rfl, rfl, ?_⟩
    cases ht : takesB l a with
    | true =>
      have : putB (u ++ [l]) a = u ++ [l] := by unfold putB topB; simp [ht]
      rw [this] at h
      exact .inr ⟨rfl, Wq.of h⟩
    | false =>
      have : putB (u ++ [l]) a = leftB (u ++ [l]) a ++ [a] := by unfold putB topB; simp [ht]
      exact .inl ⟨rfl, loop this.symm ex _ rfl⟩
end K98
set_option Elab.async false
set_option linter.all false
set_option maxRecDepth 100000
set_option maxHeartbeats 4000000
/-! k98: products, what they have. -/
namespace K98
open PySem PySem.Spec PyProof.Rows L2 Lk Wk98
def redB (p : List At) : List At := p.foldl putB []
theorem putB_len (p : List At) (a : At) : (putB p a).length ≤ p.length + 1 := by
  unfold putB
  by_cases hc : topB p a = true
  · rw [if_pos hc]; omega
  · rw [if_neg hc, List.length_append]; have := leftB_len p a; simp; omega
def iv_red (p : List At) (M : Mm) (i : Nat) (δ : DSt) (N : Mm) : Prop := N = M ∧ ∃ x, δ = [some (atsD p), some (atsD ((p.take i).foldl putB [])), x] ∧ ((p.take i).foldl putB []).length ≤ i
def sp_reduced_in : DSp := fun ds M q _ => match ds with
  | [x] => ∃ p, x = atsD p ∧ p.length < 800 ∧ q (atsD (redB p)) M
  | _ => False
theorem pl_reduced_in : PL ["atoms", "found", "atom"] (r_reduced_in sp_put_behind) sp_reduced_in := by
  intro ds M q ex h
  unfold sp_reduced_in at h
  split at h; case h_2 => exact h.elim
  obtain ⟨p, rfl, hl, h⟩ := h
  simp [r_reduced_in, startD]
  refine for_by (iv_red p M) ⟨rfl, none, rfl, by simp⟩ (fun _ _ _ _ => trivial) ?_ ?_
  · rintro i d δ N hd ⟨rfl, x, rfl, hn⟩
    obtain ⟨a, ha, rfl⟩ := get_map hd
    have hi : i < p.length := by
      rcases Nat.lt_or_ge i p.length with h1 | h1
      · exact h1
      · rw [List.getElem?_eq_none h1] at ha; cases ha
    simp
    refine ⟨_, a, rfl, rfl, by omega, Wk.of ⟨rfl, some (atD a), ?_, ?_⟩⟩
    · rw [take_get ha, List.foldl_append]; rfl
    · rw [take_get ha, List.foldl_append]
      have := putB_len ((p.take i).foldl putB []) a
      exact Nat.le_trans this (by omega)
  · rintro δ N ⟨rfl, x, rfl, hn⟩
    simp
    exact Wq.of h
def AtOk (k : Int) : At → Prop
  | .one x => 0 ≤ x ∧ x < k
  | .any ls => ls ≠ [] ∧ inK k ls = true ∧ AscD (ls.map .int)
def sp_is_atom : DSp := fun ds M q _ => match ds with
  | [.int k, d] => ∃ a, d = atD a ∧ AtOk k a ∧ q (.bl true) M
  | _ => False
theorem pl_is_atom : PL ["k", "told"] (r_is_atom sp_is_below sp_is_ascending) sp_is_atom := by
  intro ds M q ex h
  unfold sp_is_atom at h
  split at h; case h_2 => exact h.elim
  rename_i k d
  obtain ⟨a, rfl, ha, h⟩ := h
  cases a with
  | one x =>
    obtain ⟨h0, h1⟩ := ha
    simp [r_is_atom, startD, sp_is_below, h0, h1]
    exact Wq.of h
  | any ls =>
    obtain ⟨h0, h1, h2⟩ := ha
    have hl : ¬ ((ls.length : Int) = 0) := by
      intro e
      exact h0 (List.length_eq_zero_iff.mp (by omega))
    simp [r_is_atom, startD, ne1, h0]
    refine ag_all (below k) trivial (fun d q' hd z => ?_) ?_
    · obtain ⟨x, hx, rfl⟩ := List.mem_map.mp hd
      simpa [gin, sp_is_below, below] using z
    · rw [below_all, h1]
      refine .inr ⟨rfl, ?_⟩
      exact ⟨h2, Wq.of h⟩
def sp_are_atoms : DSp := fun ds M q _ => match ds with
  | [.int k, d] => ∃ p, d = atsD p ∧ (∀ a ∈ p, AtOk k a) ∧ q (.bl true) M
  | _ => False
theorem pl_are_atoms : PL ["k", "told"] (r_are_atoms sp_is_atom) sp_are_atoms := by
  intro ds M q ex h
  unfold sp_are_atoms at h
  split at h; case h_2 => exact h.elim
  rename_i k d
  obtain ⟨p, rfl, ha, h⟩ := h
  simp [r_are_atoms, startD]
  refine ag_allm (c := atD) (fun _ => true) trivial (fun x q' hx z => ?_) (by rw [all_yes]; exact Wq.of h)
  simp [gin, sp_is_atom]
  exact ⟨x, rfl, ha x hx, z⟩
def sp_is_product_of : DSp := fun ds M q _ => match ds with
  | [.int k, d] => ∃ p, d = atsD p ∧ (∀ a ∈ p, AtOk k a) ∧ redB p = p ∧ p.length < 800 ∧ q (.bl true) M
  | _ => False
theorem eq_ats {M : Mm} {q : Kd} {p p' : List At} {neg : Bool} (h : q (.bl (if neg then !decide (p = p') else decide (p = p'))) M) : oEq neg (atsD p) (atsD p') M q := by
  have hd : ∀ p : List At, dpDs (p.map atD) ≤ 2 := fun p => dpDs_map fun a _ => dp_at a
  refine oEqT (b := decide (p = p')) (okTs_map fun a _ => okT_at a) (okTs_map fun a _ => okT_at a) (by have := hd p; omega) (by have := hd p'; omega) ?_ h
  rw [decide_eq_true_iff]
  exact ⟨fun e => e ▸ rfl, atsD_inj⟩
theorem pl_is_product_of : PL ["k", "told"] (r_is_product_of sp_are_atoms sp_reduced_in) sp_is_product_of := by
  intro ds M q ex h
  unfold sp_is_product_of at h
  split at h; case h_2 => exact h.elim
  rename_i k d
  obtain ⟨p, rfl, ha, hr, hl, h⟩ := h
  simp [r_is_product_of, startD]
  refine ⟨p, rfl, ha, .inr ⟨rfl, p, rfl, hl, ?_⟩⟩
  rw [hr]
  exact eq_ats (by simpa using Wq.of h)
def sp_check_product : DSp := fun ds M q _ => match ds with
  | [.int k, d] => ∃ p, d = atsD p ∧ (∀ a ∈ p, AtOk k a) ∧ redB p = p ∧ p.length < 800 ∧ q .non M
  | _ => False
theorem pl_check_product : PL ["k", "product"] (r_check_product sp_is_product_of) sp_check_product := by
  intro ds M q ex h
  unfold sp_check_product at h
  split at h; case h_2 => exact h.elim
  rename_i k d
  obtain ⟨p, rfl, ha, hr, hl, h⟩ := h
  simp [r_check_product, startD]
  exact ⟨p, rfl, ha, hr, hl, rfl, Wq.of h⟩
def sp_check_k : DSp := fun ds M q _ => match ds with
  | [.int k] => 1 ≤ k ∧ k ≤ 3 ∧ q .non M
  | _ => False
theorem pl_check_k : PL ["k"] (r_check_k sp_is_k) sp_check_k := by
  intro ds M q ex h
  unfold sp_check_k at h
  split at h; case h_2 => exact h.elim
  obtain ⟨h1, h2, h⟩ := h
  simp [r_check_k, startD, sp_is_k, h1, h2]
  exact Wq.of h
def sp_reduced : DSp := fun ds M q _ => match ds with
  | [.int k, d] => ∃ p, d = atsD p ∧ 1 ≤ k ∧ k ≤ 3 ∧ (∀ a ∈ p, AtOk k a) ∧ p.length < 800 ∧ q (atsD (redB p)) M
  | _ => False
theorem pl_reduced : PL ["k", "atoms"] (r_reduced sp_check_k sp_are_atoms sp_reduced_in) sp_reduced := by
  intro ds M q ex h
  unfold sp_reduced at h
  split at h; case h_2 => exact h.elim
  rename_i k d
  obtain ⟨p, rfl, h1, h2, ha, hl, h⟩ := h
  simp [r_reduced, startD, sp_check_k, h1, h2]
  exact ⟨p, rfl, ha, rfl, p, rfl, hl, Wq.of h⟩
/-! what a product has -/
def restB : List At → Int → Option Nat
  | [], _ => none
  | a :: p, x => if fitsB (.one x) a = true then some (if isAny a then 0 else 1) else (restB p x).map (· + 1)
def hasL : List Int → List At → Bool
  | [], _ => true
  | x :: w, p => match restB p x with
    | none => false
    | some k => hasL w (p.drop k)
def optD : Option Nat → D
  | none => .non
  | some n => .int n
def sp_rest_behind : DSp := fun ds M q _ => match ds with
  | [d, .int i, .int x] => ∃ p n, d = atsD p ∧ i = (n : Nat) ∧ q (optD ((restB (p.drop n) x).map (n + ·))) M
  | _ => False
def iv_rest (p : List At) (x : Int) (n : Nat) (M : Mm) (m : Nat) (δ : DSt) (N : Mm) : Prop := ∃ i, m = p.length - i ∧ N = M ∧ δ = [some (atsD p), some (.int (i : Nat)), some (.int x)] ∧ (restB (p.drop n) x).map (n + ·) = (restB (p.drop i) x).map (i + ·)
theorem pl_rest_behind : PL ["product", "at", "letter"] (r_rest_behind sp_fits) sp_rest_behind := by
  intro ds M q ex h
  unfold sp_rest_behind at h
  split at h; case h_2 => exact h.elim
  rename_i d i x
  obtain ⟨p, n, rfl, rfl, h⟩ := h
  simp [r_rest_behind, startD]
  refine while_by (iv_rest p x n M) (m := p.length - n) ⟨n, rfl, rfl, rfl, rfl⟩ ?_
  rintro m δ N ⟨i, rfl, rfl, rfl, he⟩
  rcases Nat.lt_or_ge i p.length with hi | hi
  · have hi' : (i : Int) < p.length := by omega
    have g : atI (p.map atD) (i : Int) = some (atD p[i]) := atI_of (by rw [List.getElem?_map, List.getElem?_eq_getElem hi]; rfl)
    have dr : p.drop i = p[i] :: p.drop (i + 1) := List.drop_eq_getElem_cons hi
    simp [hi', g, sp_fits]
    refine ⟨.one x, rfl, p[i], rfl, ?_⟩
    rw [dr, restB] at he
    cases hf : fitsB (.one x) p[i] with
    | true =>
      rw [if_pos hf] at he
      rw [he] at h
      refine .inr ⟨rfl, ?_⟩
      cases hp : p[i] with
      | one y =>
        rw [hp] at h
        simp [isAny, optD] at h ⊢
        exact Wq.of h
      | any ls =>
        rw [hp] at h
        simp [isAny, optD, ne1] at h ⊢
        exact Wq.of h
    | false =>
      rw [if_neg (by rw [hf]; decide)] at he
      refine .inl ⟨rfl, Wk.of ⟨p.length - (i + 1), by omega, i + 1, rfl, rfl, rfl, ?_⟩⟩
      rw [he, Option.map_map]
      congr 1
      funext k
      simp; omega
  · have hi' : ¬ (i : Int) < p.length := by omega
    simp [hi']
    rw [he, List.drop_of_length_le hi] at h
    exact Wq.of h
def iv_has (p : List At) (w : List Int) (M : Mm) (i : Nat) (δ : DSt) (N : Mm) : Prop := N = M ∧ ∃ (n : Nat) (x : Option D), δ = [some (atsD p), some (wD w), some (.int n), x] ∧ hasL w p = hasL (w.drop i) (p.drop n)
def sp_product_has_in : DSp := fun ds M q _ => match ds with
  | [d, .tup xs] => ∃ p w, d = atsD p ∧ xs = w.map .int ∧ q (.bl (hasL w p)) M
  | _ => False
theorem pl_product_has_in : PL ["product", "word", "at", "letter"] (r_product_has_in sp_rest_behind) sp_product_has_in := by
  intro ds M q ex h
  unfold sp_product_has_in at h
  split at h; case h_2 => exact h.elim
  obtain ⟨p, w, rfl, rfl, h⟩ := h
  simp [r_product_has_in, startD]
  refine for_by (iv_has p w M) ⟨rfl, 0, none, rfl, rfl⟩ (fun _ _ _ _ => trivial) ?_ ?_
  · rintro i d δ N hd ⟨rfl, n, x, rfl, he⟩
    obtain ⟨y, hy, rfl⟩ := get_int hd
    rw [drop_get hy, hasL] at he
    simp
    refine ⟨p, n, rfl, rfl, ?_⟩
    cases hr : restB (p.drop n) y with
    | none =>
      rw [hr] at he
      rw [he] at h
      simp [optD]
      exact Wq.of h
    | some k =>
      rw [hr] at he
      simp [optD, isB]
      refine Wk.of ⟨rfl, n + k, some (.int y), by simp, ?_⟩
      rw [he]
      show hasL (w.drop (i + 1)) ((p.drop n).drop k) = _
      rw [List.drop_drop]
  · rintro δ N ⟨rfl, n, x, rfl, he⟩
    have he : hasL w p = hasL (w.drop (w.map D.int).length) (p.drop n) := he
    rw [List.length_map, List.drop_of_length_le (Nat.le_refl _), hasL] at he
    rw [he] at h
    simp
    exact Wq.of h
def sp_is_word_of : DSp := fun ds M q _ => match ds with
  | [.int k, .tup xs] => ∃ w : List Int, xs = w.map D.int ∧ inK k w = true ∧ q (.bl true) M
  | _ => False
theorem pl_is_word_of : PL ["k", "told"] (r_is_word_of sp_is_letters) sp_is_word_of := by
  intro ds M q ex h
  unfold sp_is_word_of at h
  split at h; case h_2 => exact h.elim
  obtain ⟨w, rfl, hw, h⟩ := h
  simp [r_is_word_of, startD, sp_is_letters]
  exact ⟨w, rfl, by rw [hw]; exact Wq.of h⟩
def sp_check_word : DSp := fun ds M q _ => match ds with
  | [.int k, .tup xs] => ∃ w : List Int, xs = w.map D.int ∧ inK k w = true ∧ q .non M
  | _ => False
theorem pl_check_word : PL ["k", "word"] (r_check_word sp_is_word_of) sp_check_word := by
  intro ds M q ex h
  unfold sp_check_word at h
  split at h; case h_2 => exact h.elim
  obtain ⟨w, rfl, hw, h⟩ := h
  simp [r_check_word, startD, sp_is_word_of]
  exact ⟨w, rfl, hw, Wq.of h⟩
def sp_product_has : DSp := fun ds M q _ => match ds with
  | [d, .tup xs] => ∃ p w, d = atsD p ∧ xs = w.map .int ∧ (∀ a ∈ p, AtOk 3 a) ∧ redB p = p ∧ p.length < 800 ∧ inK 3 w = true ∧ q (.bl (hasL w p)) M
  | _ => False
theorem pl_product_has : PL ["product", "word"] (r_product_has sp_check_product sp_check_word sp_product_has_in) sp_product_has := by
  intro ds M q ex h
  unfold sp_product_has at h
  split at h; case h_2 => exact h.elim
  obtain ⟨p, w, rfl, rfl, ha, hr, hl, hw, h⟩ := h
  simp [r_product_has, startD, -List.map_inj_left]
  exact ⟨p, rfl, ha, hr, hl, w, rfl, hw, p, w, rfl, rfl, Wq.of h⟩
end K98
set_option Elab.async false
set_option linter.all false
set_option maxRecDepth 100000
set_option maxHeartbeats 4000000
/-! k98: the mathematics; the law's own look. -/
namespace K98
open PySem PySem.Spec PyProof.Rows L2 Lk Wk98
def strip (L : Int → Bool) (w : List Int) : List Int := (w.reverse.dropWhile L).reverse
theorem cut_strip (L : Int → Bool) (w : List Int) : cut w (last 0 L w) = strip L w := by
  have h : (w.reverse.takeWhile L) ++ (w.reverse.dropWhile L) = w.reverse := List.takeWhile_append_dropWhile
  have h2 := congrArg List.reverse h
  rw [List.reverse_append, List.reverse_reverse] at h2
  have hl : (w.reverse.dropWhile L).reverse.length + (w.reverse.takeWhile L).length = w.length := by
    have := congrArg List.length h2
    rw [List.length_append, List.length_reverse (as := w.reverse.takeWhile L)] at this
    exact this
  show w.take (w.length - last 0 L w) = _
  have e : last 0 L w = (w.reverse.takeWhile L).length := by unfold last; rw [if_pos rfl]
  rw [e]
  unfold strip
  generalize hA : (w.reverse.dropWhile L).reverse = A at *
  generalize hB : (w.reverse.takeWhile L).reverse = B at *
  have : w.length - (w.reverse.takeWhile L).length = A.length := by omega
  rw [this]
  conv => lhs; rw [← h2]
  simp
theorem strip_nil (L : Int → Bool) : strip L [] = [] := rfl
theorem strip_snoc (L : Int → Bool) (u : List Int) (a : Int) : strip L (u ++ [a]) = if L a = true then strip L u else u ++ [a] := by
  unfold strip
  rw [List.reverse_append]
  show (List.dropWhile _ (a :: u.reverse)).reverse = _
  rw [List.dropWhile_cons]
  split
  · rfl
  · simp
theorem snoc_ind {P : List Int → Prop} (h0 : P []) (h1 : ∀ u a, P u → P (u ++ [a])) (w : List Int) : P w := by
  have : ∀ (n : Nat) (w : List Int), w.length = n → P w := by
    intro n
    induction n with
    | zero => intro w hw; rw [List.length_eq_zero_iff.mp hw]; exact h0
    | succ n ih =>
      intro w hw
      rcases List.eq_nil_or_concat w with rfl | ⟨u, a, rfl⟩
      · cases hw
      · rw [List.concat_eq_append]
        exact h1 u a (ih u (by simpa using hw))
  exact this _ w rfl
theorem strip_cons (L : Int → Bool) (x : Int) (w : List Int) : strip L (x :: w) = if strip L w = [] ∧ L x = true then [] else x :: strip L w := by
  refine snoc_ind (P := fun w => strip L (x :: w) = if strip L w = [] ∧ L x = true then [] else x :: strip L w) ?_ (fun u a ih => ?_) w
  · have := strip_snoc L [] x
    simp [strip_nil] at this ⊢
    exact this
  · have h1 := strip_snoc L (x :: u) a
    have e : x :: u ++ [a] = x :: (u ++ [a]) := rfl
    rw [e] at h1
    rw [h1, strip_snoc]
    by_cases ha : L a = true
    · rw [if_pos ha, if_pos ha]; exact ih
    · rw [if_neg ha, if_neg ha, if_neg (by simp)]
theorem strip_end (L : Int → Bool) (w : List Int) : strip L w = [] ∨ ∃ u a, strip L w = u ++ [a] ∧ L a = false := by
  refine snoc_ind (P := fun w => strip L w = [] ∨ ∃ u a, strip L w = u ++ [a] ∧ L a = false) (.inl rfl) (fun u a ih => ?_) w
  rw [strip_snoc]
  by_cases ha : L a = true
  · rw [if_pos ha]; exact ih
  · rw [if_neg ha]; exact .inr ⟨u, a, rfl, by simpa using ha⟩
theorem strip_nil_iff (L : Int → Bool) (w : List Int) : strip L w = [] ↔ ∀ x ∈ w, L x = true := by
  induction w with
  | nil => simp [strip_nil]
  | cons x w ih =>
    rw [strip_cons]
    constructor
    · intro h
      split at h
      · rename_i hc
        intro y hy
        rcases List.mem_cons.mp hy with rfl | hy
        · exact hc.2
        · exact ih.mp hc.1 y hy
      · cases h
    · intro h
      rw [if_pos ⟨ih.mpr fun y hy => h y (List.mem_cons_of_mem _ hy), h x List.mem_cons_self⟩]
theorem strip_sub (L : Int → Bool) (w : List Int) : (strip L w).Sublist w := by
  have := (List.dropWhile_sublist L (l := w.reverse)).reverse
  rw [List.reverse_reverse] at this
  exact this
theorem sub_snoc {u v : List Int} {a b : Int} (h : (u ++ [a]).Sublist (v ++ [b])) (hn : a ≠ b) : (u ++ [a]).Sublist v := by
  have h2 := h.reverse
  rw [List.reverse_append, List.reverse_append] at h2
  have h3 : (a :: u.reverse).Sublist (b :: v.reverse) := h2
  rw [sub_skip (Ne.symm hn)] at h3
  have := h3.reverse
  simpa using this
/-- what ends otherwise is strewn ahead -/
theorem sub_strip (L : Int → Bool) (t s : List Int) (ht : t = [] ∨ ∃ u a, t = u ++ [a] ∧ L a = false) : t.Sublist s ↔ t.Sublist (strip L s) := by
  refine ⟨?_, fun h => h.trans (strip_sub L s)⟩
  rcases ht with rfl | ⟨u, a, rfl, ha⟩
  · simp
  refine snoc_ind (P := fun s => (u ++ [a]).Sublist s → (u ++ [a]).Sublist (strip L s)) (fun h => h) (fun v b ih h => ?_) s
  rw [strip_snoc]
  split
  · rename_i hb
    exact ih (sub_snoc h (fun e => by rw [e, hb] at ha; cases ha))
  · exact h
/-! products of ones with letters behind -/
def tailB (ls : List Int) : List At := if ls = [] then [] else [.any ls]
def LB (ls : List Int) : Int → Bool := fun x => decide (x ∈ ls)
theorem red_ones (s : List Int) : redB (s.map .one) = s.map .one := by
  refine snoc_ind (P := fun s => redB (s.map .one) = s.map .one) rfl (fun u a ih => ?_) s
  unfold redB at ih ⊢
  rw [List.map_append, List.foldl_append, ih]
  show putB (u.map .one) (.one a) = _
  have h1 : topB (u.map .one) (.one a) = false := by
    unfold topB
    rcases List.eq_nil_or_concat u with rfl | ⟨v, b, rfl⟩
    · rfl
    · simp [takesB, isAny]
  have h2 : leftB (u.map .one) (.one a) = u.map .one := by
    rcases List.eq_nil_or_concat u with rfl | ⟨v, b, rfl⟩
    · rfl
    · rw [List.concat_eq_append, List.map_append]
      show leftB (v.map .one ++ [.one b]) (.one a) = _
      rw [leftB_snoc, if_neg (by simp [takesB, isAny])]
      rfl
  unfold putB
  rw [h1, if_neg (by decide), h2]; rfl
theorem left_any (s ls : List Int) : leftB (s.map .one) (.any ls) = (strip (LB ls) s).map .one := by
  refine snoc_ind (P := fun s => leftB (s.map .one) (.any ls) = (strip (LB ls) s).map .one) rfl (fun u a ih => ?_) s
  rw [List.map_append]
  show leftB (u.map .one ++ [.one a]) (.any ls) = _
  rw [leftB_snoc, strip_snoc]
  have : takesB (.any ls) (.one a) = LB ls a := by simp [takesB, isAny, fitsB, LB]
  rw [this]
  split
  · exact ih
  · rw [List.map_append]; rfl
theorem top_one (u : List Int) (ls : List Int) : topB (u.map .one) (.any ls) = false := by
  unfold topB
  rcases List.eq_nil_or_concat u with rfl | ⟨v, b, rfl⟩
  · rfl
  · simp [takesB, isAny]
theorem red_any (s ls : List Int) : redB (s.map .one ++ tailB ls) = (strip (LB ls) s).map .one ++ tailB ls := by
  unfold tailB
  by_cases h : ls = []
  · subst h
    have e : strip (LB []) s = s := by
      have : LB [] = fun _ => false := by funext x; simp [LB]
      rw [this]
      unfold strip
      cases e : s.reverse with
      | nil => have := congrArg List.reverse e; simpa using this.symm
      | cons a t => rw [List.dropWhile_cons, if_neg (by decide), ← e, List.reverse_reverse]
    simp [e, red_ones]
  · rw [if_neg h]
    have h1 := red_ones s
    unfold redB at h1 ⊢
    rw [List.foldl_append, h1]
    show putB (s.map .one) (.any ls) = _
    unfold putB
    rw [top_one, if_neg (by decide), left_any]
theorem red_again (s ls : List Int) : redB ((strip (LB ls) s).map .one ++ tailB ls) = (strip (LB ls) s).map .one ++ tailB ls := by
  rw [red_any]
  congr 2
  have hs := strip_end (LB ls) s
  rcases hs with e | ⟨u, a, e, ha⟩
  · rw [e]; rfl
  · rw [e, strip_snoc, if_neg (by rw [ha]; decide)]
theorem rest_tail (ls : List Int) (x : Int) : restB (tailB ls) x = if LB ls x = true then some 0 else none := by
  unfold tailB LB
  by_cases h : ls = []
  · subst h; simp [restB]
  · rw [if_neg h]
    simp [restB, fitsB, isAny]
theorem has_tail (ls : List Int) (w : List Int) : hasL w (tailB ls) = w.all (LB ls) := by
  induction w with
  | nil => rw [hasL]; rfl
  | cons x w ih =>
    rw [hasL, rest_tail, List.all_cons]
    by_cases h : LB ls x = true
    · rw [if_pos h, h]; simpa using ih
    · rw [if_neg h]; simp [Bool.not_eq_true _ ▸ h]
theorem rest_one (u : List Int) (t : List At) (x : Int) : restB (u.map .one ++ t) x = if x ∈ u then some (u.idxOf x + 1) else (restB t x).map (· + u.length) := by
  induction u with
  | nil => simp
  | cons y u ih =>
    simp only [List.map_cons, List.cons_append, restB]
    by_cases h : x = y
    · subst h; simp [fitsB, isAny]
    · have h2 : ¬ y = x := fun e => h e.symm
      simp [fitsB, h, ih]
      by_cases hm : x ∈ u
      · simp [hm, List.idxOf_cons, h2]
        have : (y == x) = false := by simp [h2]
        rw [this]; rfl
      · simp [hm, Option.map_map]
        congr 1
theorem first_sub {x : Int} {t : List Int} : ∀ {u : List Int}, x ∈ u → ((x :: t).Sublist u ↔ t.Sublist (u.drop (u.idxOf x + 1)))
  | [], h => by cases h
  | y :: u, h => by
    by_cases e : y = x
    · subst e
      rw [List.idxOf_cons_self]
      simp [sub_take]
    · have hx : x ∈ u := by
        rcases List.mem_cons.mp h with rfl | h
        · exact absurd rfl e
        · exact h
      rw [sub_skip e, List.idxOf_cons]
      have : (y == x) = false := by simp [e]
      rw [this]
      simpa using first_sub hx
theorem has_strip (ls : List Int) : ∀ (w u : List Int), hasL w (u.map .one ++ tailB ls) = true ↔ (strip (LB ls) w).Sublist u
  | [], u => by rw [hasL]; simp [strip_nil]
  | x :: w, u => by
    rw [hasL, rest_one, strip_cons]
    by_cases hm : x ∈ u
    · rw [if_pos hm]
      show hasL w (List.drop (u.idxOf x + 1) (u.map At.one ++ tailB ls)) = true ↔ _
      have hlt : u.idxOf x + 1 ≤ u.length := List.idxOf_lt_length_iff.mpr hm
      rw [List.drop_append_of_le_length (by rw [List.length_map]; exact hlt), ← List.map_drop, has_strip ls w]
      by_cases hc : strip (LB ls) w = [] ∧ LB ls x = true
      · rw [if_pos hc, hc.1]; simp
      · rw [if_neg hc, first_sub hm]
    · rw [if_neg hm, rest_tail]
      have hno : ∀ t : List Int, ¬ (x :: t).Sublist u := fun t h => hm (h.subset List.mem_cons_self)
      by_cases hL : LB ls x = true
      · rw [if_pos hL]
        show hasL w (List.drop (0 + u.length) (u.map At.one ++ tailB ls)) = true ↔ _
        have e : List.drop (0 + u.length) (u.map At.one ++ tailB ls) = tailB ls := by
          have : 0 + u.length = (u.map At.one).length := by simp
          rw [this, List.drop_left]
        rw [e, has_tail, List.all_eq_true]
        have hs := strip_nil_iff (LB ls) w
        by_cases hc : strip (LB ls) w = []
        · rw [if_pos ⟨hc, hL⟩]
          exact ⟨fun _ => List.nil_sublist _, fun _ => hs.mp hc⟩
        · rw [if_neg (fun z => hc z.1)]
          constructor
          · intro h; exact absurd (hs.mpr h) hc
          · intro h; exact absurd h (hno _)
      · rw [if_neg hL, if_neg (fun z => hL z.2)]
        constructor
        · intro h; cases h
        · intro h; exact absurd h (hno _)
/-- what is due is what the runs ask -/
theorem due_eq (ls s w : List Int) : hasL w (redB (s.map .one ++ tailB ls)) = (cut w (last 0 (LB ls) w)).isSublist s := by
  rw [Bool.eq_iff_iff, red_any, has_strip, List.isSublist_iff_sublist, cut_strip]
  exact (sub_strip (LB ls) _ s (strip_end (LB ls) w)).symm
end K98
set_option Elab.async false
set_option linter.all false
set_option maxRecDepth 100000
set_option maxHeartbeats 4000000
/-! k98: the law's own look. -/
namespace K98
open PySem PySem.Spec PyProof.Rows L2 Lk Wk98
theorem len_items {M : Mm} {d : D} {xs : List D} (h : itemsOf M d = some xs) : lenOf2 M d = some xs.length ∧ strOk d := by
  cases d <;> simp [itemsOf, lsOf] at h
  case tup ys => subst h; exact ⟨rfl, trivial⟩
  case rol ys => subst h; exact ⟨rfl, trivial⟩
  case ref a =>
    split at h
    · cases h; rename_i e; exact ⟨u_lenOf2_r e, trivial⟩
    · cases h
theorem snoc_sub {u v : List Int} {a : Int} : (u ++ [a]).Sublist (v ++ [a]) ↔ u.Sublist v := List.append_sublist_append_right _
theorem snoc_skip {u v : List Int} {a b : Int} (hn : a ≠ b) : (u ++ [a]).Sublist (v ++ [b]) ↔ (u ++ [a]).Sublist v :=
  ⟨fun h => sub_snoc h hn, fun h => h.trans (List.sublist_append_left _ _)⟩
def sp__law_strewn : DSp := fun ds M q _ => match ds with
  | [x, .tup ys] => ∃ o p : List Int, itemsOf M x = some (o.map .int) ∧ ys = p.map .int ∧ p.length ≤ 100 ∧ q (.bl (o.isSublist p)) M
  | _ => False
def iv_st (x : D) (o p : List Int) (M : Mm) (i : Nat) (δ : DSt) (N : Mm) : Prop := N = M ∧ ∃ (l : Nat) (b : Option D), δ = [some x, some (wD p), some (.int l), b] ∧ l ≤ o.length ∧ (o.Sublist p ↔ (o.take l).Sublist (p.take (p.length - i)))
theorem take_snoc {w : List Int} {l : Nat} (h : l + 1 ≤ w.length) : w.take (l + 1) = w.take l ++ [w[l]] := (take_get (List.getElem?_eq_getElem (show l < w.length by omega)))
theorem pl__law_strewn : PL ["one", "other", "left", "at"] r__law_strewn sp__law_strewn := by
  intro ds M q ex h
  unfold sp__law_strewn at h
  split at h; case h_2 => exact h.elim
  rename_i x ys
  obtain ⟨o, p, hx, rfl, hl, h⟩ := h
  obtain ⟨hlen, hst⟩ := len_items hx
  rw [List.length_map] at hlen
  simp [r__law_strewn, startD, hlen, hst]
  refine ⟨by omega, ?_⟩
  refine for_by (iv_st x o p M) ⟨rfl, o.length, none, rfl, Nat.le_refl _, by simp⟩ (fun _ _ _ _ => trivial) ?_ ?_
  · rintro i d δ N hd ⟨rfl, l, b, rfl, hlo, he⟩
    obtain ⟨hi, rfl⟩ := rangeD_get hd
    simp
    cases l with
    | zero =>
      simp
      refine Wk.of ⟨rfl, 0, _, rfl, Nat.zero_le _, ?_⟩
      rw [he]; simp
    | succ l =>
      have h0 : (0 : Int) < (l : Int) + 1 := by omega
      have ep : atI (p.map D.int) ((p.length : Int) - 1 - i) = some (.int p[p.length - 1 - i]) := by
        have e : (p.length : Int) - 1 - i = ((p.length - 1 - i : Nat) : Int) := by omega
        rw [e]
        exact atI_of (by rw [List.getElem?_map, List.getElem?_eq_getElem (by omega)]; rfl)
      have eo : atI (o.map D.int) ((l : Int) + 1 - 1) = some (.int o[l]) := by
        have e : (l : Int) + 1 - 1 = (l : Nat) := by omega
        rw [e]
        exact atI_of (by rw [List.getElem?_map, List.getElem?_eq_getElem (by omega)]; rfl)
      have tp : p.take (p.length - i) = p.take (p.length - (i + 1)) ++ [p[p.length - 1 - i]] := by
        have e : p.length - i = (p.length - (i + 1)) + 1 := by omega
        rw [e, take_snoc (by omega)]
        congr 2
        congr 1
        omega
      rw [take_snoc (by omega), tp] at he
      simp [h0, ep]
      refine oIx2_items hx (by simpa using eo) ?_
      by_cases hab : p[p.length - 1 - i] = o[l]
      · simp [hab]
        refine Wk.of ⟨rfl, l, _, by simp; rfl, by omega, ?_⟩
        rw [he, hab, snoc_sub]
      · simp [hab]
        refine Wk.of ⟨rfl, l + 1, _, by simp; rfl, by omega, ?_⟩
        rw [he, snoc_skip (fun e => hab e.symm), take_snoc (by omega)]
  · rintro δ N ⟨rfl, l, b, rfl, hlo, he⟩
    have he : o.Sublist p ↔ (o.take l).Sublist (p.take (p.length - (rangeD 0 p.length).length)) := he
    rw [rangeD_length] at he
    simp
    have e : decide (l = 0) = o.isSublist p := by
      rw [Bool.eq_iff_iff, List.isSublist_iff_sublist, he]
      simp
      intro z
      subst z
      simpa using hlo
    have e2 : q (.bl (decide (l = 0))) N := by rw [e]; exact h
    exact Wq.of e2
theorem rtup {M : Mm} {n : Nat} {xs : List D} (hl : xs.length ≤ 1000) (h : ∀ x ∈ xs, SameD M n x x) : SameD M (n + 1) (.tup xs) (.tup xs) :=
  .tup rfl hl fun i x y hx hy => by rw [hx] at hy; cases hy; exact h x (mem_get hx)
theorem rlst {M : Mm} {n : Nat} {a b : Addr} {xs : List D} (ha : M a = some (.lst xs)) (hb : M b = some (.lst xs)) (hl : xs.length ≤ 1000) (h : ∀ x ∈ xs, SameD M n x x) : SameD M (n + 1) (.ref a) (.ref b) :=
  .lst ha hb rfl hl fun i x y hx hy => by rw [hx] at hy; cases hy; exact h x (mem_get hx)
theorem same_wD {M : Mm} {w : List Int} (h : w.length ≤ 100) : SameD M 1 (wD w) (wD w) := rtup (by simp; omega) fun x hx => by obtain ⟨i, _, rfl⟩ := List.mem_map.mp hx; exact .int _ _
theorem same_bars {M : Mm} {R : Nat} {r : Int} {v : List Int} (hR : R ≤ 100) (h : v.length ≤ 100) : SameD M 4 (barsD R r v) (barsD R r v) := rtup (by simp; omega) fun x hx => by
  obtain ⟨i, _, rfl⟩ := List.mem_map.mp hx
  split
  · refine rtup (by simp) fun y hy => ?_
    rw [List.mem_singleton.mp hy]
    refine rtup (by simp) fun z hz => ?_
    rw [List.mem_singleton.mp hz]
    exact same_wD h
  · exact rtup (by simp) (fun y hy => by cases hy)
def sp__law_paper_right : DSp := fun ds M q _ => match ds with
  | [d, s, e, .bl due, c] => ∃ S L v w, d = sysD S ∧ SendSys S L ∧ s = st1 0 v ∧ e = st1 0 w ∧ c = comesD S 0 L v w ∧ inK S.k v = true ∧ v.length ≤ 100 ∧ inK S.k w = true ∧ w.length ≤ 100 ∧
    due = (cut w (last 0 L w)).isSublist v ∧ q (.bl true) M
  | _ => False
theorem pl__law_paper_right : PL ["system", "start", "goal", "due", "told", "stands", "at"] (r__law_paper_right (sp_same 6) sp_judge_comes sp_ahead sp__law_strewn sp_leads_on) sp__law_paper_right := by
  intro ds M q ex h
  unfold sp__law_paper_right at h
  split at h; case h_2 => exact h.elim
  obtain ⟨S, L, v, w, rfl, Z, rfl, rfl, rfl, hv, hvl, hw, hl, rfl, h⟩ := h
  have hR := Z.ok.rooms
  cases hd : (cut w (last 0 L w)).isSublist v with
  | true =>
    have hc : comesD S 0 L v w = runD w (last 0 L w) := by unfold comesD; rw [if_pos ⟨rfl, hd⟩]
    rw [hc]
    simp [r__law_paper_right, startD, -List.map_inj_left]
    refine ⟨S, L, v, w, rfl, Z, rfl, rfl, hc.symm, hv, hvl, hw, hl, fun p1 hp1 p2 hp2 => ?_⟩
    refine ⟨rlst (keep_new mset_same hp2) mset_same (by simp) (fun x hx => ?_), ?_⟩
    · simp at hx
      rcases hx with rfl | rfl
      · exact .str _ _
      · exact .bl _ _
    have hs2 : Lk.Sub M (mset (mset M p1 (.lst [.str "run", .bl true])) p2 (.lst [.str "run", .bl true])) := (Sub.new hp1).trans (.new hp2)
    generalize mset (mset M p1 (.lst [.str "run", .bl true])) p2 (.lst [.str "run", .bl true]) = N at hs2 ⊢
    refine .inr ⟨rfl, ?_⟩
    generalize hn : last 0 L w = n at hd
    have hnl : n ≤ w.length := hn ▸ last_le
    have g0 : atI (runL w n n) 0 = some (st1 0 (cut w n)) := atI_of (i := 0) (runL_get (Nat.zero_le _))
    have gl : atI (runL w n n) (-1) = some (st1 0 w) := by rw [runL_last]; simp [cut]
    have hrl : (runL w n n).length = n + 1 := by simp [runL]
    have htr : ∀ x ∈ runL w n n, ∃ t, x = st1 0 t := fun x hx => by obtain ⟨t, _, rfl⟩ := List.mem_map.mp hx; exact ⟨_, rfl⟩
    have hok : okTs (runL w n n) = true := okTs_map fun t _ => by
      show okTs [.int 0, .tup [wD _]] = true
      rw [okTs, okTs, okT, okTs, okT, okTs, okT, okTs, okTs_int]; rfl
    have hdp : dpDs (runL w n n) ≤ 10 := dpDs_map fun t _ => by
      have := dpDs_int (cut w (n - t))
      show dpDs [.int 0, .tup [wD _]] + 1 ≤ 10
      simp only [dpDs, dpD, this]
      omega
    refine oEqT (b := false) hok rfl (by omega) (by decide) ?_ ?_
    · constructor
      · intro z; cases z
      · intro z; have := congrArg List.length z; rw [hrl] at this; cases this
    refine .inl ⟨rfl, _, gl, ?_⟩
    refine eq_st1 ?_
    refine .inl ⟨rfl, _, g0, ?_⟩
    simp
    refine ⟨_, g0, ?_⟩
    simp
    refine ⟨cut w n, v, rfl, rfl, hvl, ?_⟩
    rw [hd]
    refine .inr ⟨rfl, by omega, by omega, ?_⟩
    rw [hrl]
    refine lc_map (fun _ => .bl true) ?_ (fun _ _ _ => trivial) (fun d q' p o hdd hp z => ?_) (fun p hp => ?_)
    · show (rangeD 0 _).length ≤ sizeLine
      rw [rangeD_length]
      exact Nat.le_trans (by omega) sz1000
    · have hdd : d ∈ rangeD 0 (n + 1 - 1) := hdd
      obtain ⟨j, hj, rfl⟩ := rangeD_mem hdd
      have hj : j < n := by omega
      have gj : atI (runL w n n) (j : Int) = some (st1 0 (cut w (n - j))) := atI_of (runL_get (by omega))
      have gj1 : atI (runL w n n) ((j : Int) + 1) = some (st1 0 (cut w (n - (j + 1)))) := atI_of (i := j + 1) (runL_get (by omega))
      simp [wipeG, gj, gj1]
      refine ⟨S, ⟨0, [cut w (n - j)]⟩, ⟨0, [cut w (n - (j + 1))]⟩, rfl, rfl, rfl, Z.ok, sta_ok Z (by decide) hR (inK_cut hw), sta_ok Z (by decide) hR (inK_cut hw), short1 (cutw_len hl), ?_⟩
      rw [show n - j = n - (j + 1) + 1 by omega, leads_cut Z (by omega)]
      simpa using z
    · refine ⟨_, ls_bl, ?_⟩
      rw [all_map_id]
      have : ∀ l : List D, l.all (fun _ => true) = true := fun l => by simp
      rw [this]
      exact Wq.sub h (hs2.trans (.new hp))
  | false =>
    have hc : comesD S 0 L v w = .tup [.str "barrier", barsD S.rooms.toNat 0 (cut w (last 0 L w))] := by unfold comesD; rw [if_neg (by rw [hd]; simp)]
    rw [hc]
    simp [r__law_paper_right, startD, -List.map_inj_left]
    refine ⟨S, L, v, w, rfl, Z, rfl, rfl, hc.symm, hv, hvl, hw, hl, fun p1 hp1 p2 hp2 => ?_⟩
    refine ⟨rlst (keep_new mset_same hp2) mset_same (by simp) (fun x hx => ?_), ?_⟩
    · simp at hx
      rcases hx with rfl | rfl
      · exact .str _ _
      · exact .bl _ _
    refine .inr ⟨rfl, S, L, 0, w, rfl, Z, rfl, by decide, hR, hw, hl, ?_⟩
    have := Z.rooms
    refine ⟨rtup (by simp) (fun x hx => ?_), Wq.sub h ((Sub.new hp1).trans (.new hp2))⟩
    simp at hx
    rcases hx with rfl | rfl
    · exact .str _ _
    · exact (same_bars (by omega) (cutw_len hl)).up (by decide)
end K98
set_option Elab.async false
set_option linter.all false
set_option maxRecDepth 100000
set_option maxHeartbeats 4000000
/-! k98: the law. -/
namespace K98
open PySem PySem.Spec PyProof.Rows L2 Lk Wk98


def kS (s : Step) : NestedKey := .tup [.num s.room, .tup (s.deed.map .num), .num s.there]
theorem key_step (s : Step) : keyOf (stepD s) = some (kS s) := by
  rw [keyOf, keysOf, keysOf, keysOf, keysOf, key_wD, keyOf, keyOf]; rfl
theorem kS_inj {s t : Step} (h : kS s = kS t) : s = t := by
  obtain ⟨a, b, c⟩ := s
  obtain ⟨a', b', c'⟩ := t
  unfold kS at h
  simp at h
  obtain ⟨rfl, h2, rfl⟩ := h
  have : b = b' := (List.map_inj_right (fun x y e => by cases e; rfl)).mp h2
  rw [this]
theorem ok_kS (s t : Step) : okK (kS s) (kS t) = true := by
  unfold kS
  rw [okK, okKs, okKs, okKs, okKs, okK, okK, okK, ok_nums]
  · simp
  · intro x xs y ys h; cases h
theorem depth_kS (s : Step) : (kS s).depth ≤ 8 := by
  unfold kS
  rw [NestedKey.depth, NestedKey.depthAll, NestedKey.depthAll, NestedKey.depthAll, NestedKey.depthAll, NestedKey.depth, NestedKey.depth, NestedKey.depth, depth_nums]
  decide

theorem keysOf_steps : ∀ ss : List Step, keysOf (ss.map stepD) = some (ss.map kS)
  | [] => by rw [List.map_nil, keysOf]; rfl
  | s :: ss => by rw [List.map_cons, keysOf, key_step, keysOf_steps ss]; rfl
theorem allOk_steps (ss : List Step) : AllOk (ss.map kS) := by
  refine ⟨fun k hk l hl => ?_, fun k hk => ?_⟩
  · obtain ⟨s, _, rfl⟩ := List.mem_map.mp hk
    obtain ⟨t, _, rfl⟩ := List.mem_map.mp hl
    exact ok_kS s t
  · obtain ⟨s, _, rfl⟩ := List.mem_map.mp hk
    exact Nat.le_trans (depth_kS s) (by decide)
def unI : D → Option Int
  | .int i => some i
  | _ => none
def unS : D → Option Step
  | .tup [.int r, .tup xs, .int t] => some ⟨r, xs.filterMap unI, t⟩
  | _ => none
theorem unI_map (w : List Int) : (w.map D.int).filterMap unI = w := by
  rw [List.filterMap_map]
  exact List.filterMap_some
theorem unS_step (s : Step) : unS (stepD s) = some s := by
  show some (Step.mk s.room ((s.deed.map D.int).filterMap unI) s.there) = some s
  rw [unI_map]
theorem unS_map (ss : List Step) : (ss.map stepD).filterMap unS = ss := by
  rw [List.filterMap_map]
  have : unS ∘ stepD = some := funext unS_step
  rw [this]
  exact List.filterMap_some
theorem perm_steps {ss : List Step} {ys : List D} (h : ys.Perm (ss.map stepD)) : ∃ ts : List Step, ys = ts.map stepD ∧ ts.Perm ss := by
  have hm : ∀ y ∈ ys, ∃ s, y = stepD s := fun y hy => by
    obtain ⟨s, _, e⟩ := List.mem_map.mp (h.mem_iff.mp hy)
    exact ⟨s, e.symm⟩
  have : ∃ ts : List Step, ys = ts.map stepD := by
    clear h
    induction ys with
    | nil => exact ⟨[], rfl⟩
    | cons y ys ih =>
      obtain ⟨s, rfl⟩ := hm y List.mem_cons_self
      obtain ⟨ts, rfl⟩ := ih fun z hz => hm z (List.mem_cons_of_mem _ hz)
      exact ⟨s :: ts, rfl⟩
  obtain ⟨ts, rfl⟩ := this
  exact ⟨ts, rfl, by have := h.filterMap unS; rwa [unS_map, unS_map] at this⟩
theorem asc_steps {ts : List Step} (hn : ts.Nodup) (hp : (ts.map stepD).Pairwise (fun a b => ltD b a = false)) : AscD (ts.map stepD) := by
  intro i x y hx hy
  obtain ⟨s, hs, rfl⟩ := get_map hx
  obtain ⟨t, ht, rfl⟩ := get_map hy
  refine ⟨_, _, key_step s, key_step t, ok_kS s t, Nat.le_trans (depth_kS s) (by decide), ?_⟩
  have h1 : i < ts.length := by
    rcases Nat.lt_or_ge i ts.length with h | h
    · exact h
    · rw [List.getElem?_eq_none h] at hs; cases hs
  have h2 : i + 1 < ts.length := by
    rcases Nat.lt_or_ge (i + 1) ts.length with h | h
    · exact h
    · rw [List.getElem?_eq_none h] at ht; cases ht
  rw [List.getElem?_eq_getElem h1] at hs
  rw [List.getElem?_eq_getElem h2] at ht
  have e1 := Option.some.inj hs
  have e2 := Option.some.inj ht
  have lt0 : ltD (stepD t) (stepD s) = false := by
    have := (List.pairwise_iff_getElem.mp hp) i (i + 1) (by simpa using h1) (by simpa using h2) (by omega)
    simpa [e1, e2] using this
  have lt1 : ltK (kS t) (kS s) = false := by unfold ltD at lt0; rw [key_step, key_step] at lt0; exact lt0
  rcases ltK_tri (kS s) (kS t) with h | h | h
  · exact h
  · have := kS_inj h
    have h3 := (List.nodup_iff_pairwise_ne.mp hn)
    have := (List.pairwise_iff_getElem.mp h3) i (i + 1) h1 h2 (by omega)
    rw [e1, e2] at this
    exact absurd (kS_inj h) this
  · rw [lt1] at h; cases h

theorem in_word {w : List Int} {n : Nat} (h : ∀ x ∈ w, 0 ≤ x ∧ x < 10) (hl : w.length ≤ n) : wt (wD w) ≤ 3 * n + 3 ∧ isIn (wD w) = true := by
  constructor
  · rw [wt]
    have := wts_map (c := D.int) (n := 1) (as := w) fun x hx => (wt_small (h x hx).1 (h x hx).2).1
    omega
  · rw [isIn]
    exact isIns_map fun x hx => (wt_small (h x hx).1 (h x hx).2).2
theorem in_step {S : Sys} {s : Step} (O : SysOk S) (hr : S.rooms ≤ 4) (h : StepOk S.k S.rooms S.roads s) : wt (stepD s) ≤ 30 ∧ isIn (stepD s) = true := by
  obtain ⟨⟨a1, a2⟩, ⟨b1, b2⟩, hd⟩ := h
  have k := O.k
  have d := O.roads
  have h1 := wt_small (i := s.room) a1 (by omega)
  have h2 := wt_small (i := s.there) b1 (by omega)
  have h3 : (∀ x ∈ s.deed, 0 ≤ x ∧ x < 10) ∧ s.deed.length ≤ 3 := by
    rcases hd with e | ⟨x, r, l, e, hs, r0, r1, l0, l1⟩
    · rw [e]; simp
    · rw [e]; simp; omega
  have h4 := in_word h3.1 h3.2
  constructor
  · rw [wt, wts, wts, wts, wts]; omega
  · rw [isIn, isIns, isIns, isIns, isIns, h1.2, h2.2, h4.2]; rfl
theorem in_sys {S : Sys} (O : SysOk S) (hr : S.rooms ≤ 4) (hl : S.steps.length ≤ 8) : wt (sysD S) ≤ 1000 ∧ isIn (sysD S) = true := by
  have k := O.k
  have d := O.roads
  have r := O.rooms
  have h1 := wt_small (i := S.k) (by omega) (by omega)
  have h2 := wt_small (i := S.rooms) (by omega) (by omega)
  have h3 := wt_small (i := S.roads) (by omega) (by omega)
  have h4 := wts_map (c := stepD) (n := 30) (as := S.steps) fun s hs => (in_step O hr (O.steps s hs)).1
  have h5 : isIns (S.steps.map stepD) = true := isIns_map fun s hs => (in_step O hr (O.steps s hs)).2
  constructor
  · have e : wt (D.tup (S.steps.map stepD)) = wts (S.steps.map stepD) + 3 := by rw [wt]
    rw [wt, wts, wts, wts, wts, wts]; omega
  · rw [isIn, isIns, isIns, isIns, isIns, isIns, h1.2, h2.2, h3.2, isIn, h5]; rfl
theorem repr_facts {M : Mm} {a : Addr} {xs : List D} (ha : M a = some (.lst xs)) (h : isIns xs = true) (hd : dpDs xs < 59) (hw : wts xs + 3 ≤ sizeLine) :
    PD M (.ref a) (.list (toPys xs)) ∧ (PyData.list (toPys xs)).showable = true ∧ (PyData.list (toPys xs)).depth ≤ 60 ∧ (PyData.list (toPys xs)).shown.length ≤ sizeLine ∧ (∃ ys, itemsOf M (.ref a) = some ys) := by
  refine ⟨.lst ha (pds_pl M (noBls_pl (ins_nb h))), ?_, ?_, ?_, ⟨xs, u_items_r ha⟩⟩
  · rw [PyData.showable]; exact showables_in h
  · rw [PyData.depth]; have := depth_pys xs; omega
  · rw [PyData.shown]; exact Nat.le_trans (lst_len _) (Nat.le_trans (Nat.add_le_add_right (showns_wt h) 3) hw)
theorem dp_sys (S : Sys) : dpD (sysD S) ≤ 10 := by
  have h1 : ∀ ss : List Step, dpDs (ss.map stepD) ≤ 3 := fun ss => by
    induction ss with
    | nil => exact Nat.zero_le _
    | cons s ss ih =>
      have := dpDs_int s.deed
      simp only [List.map_cons, dpDs, dpD]
      omega
  have := h1 S.steps
  simp only [dpD, dpDs]
  omega
theorem in_st1 {r : Int} {w : List Int} (h0 : 0 ≤ r) (h1 : r < 10) (hw : inK 2 w = true) (hl : w.length ≤ 4) : wt (st1 r w) ≤ 100 ∧ isIn (st1 r w) = true := by
  have a := wt_small (i := r) h0 h1
  have b := in_word (w := w) (n := 4) (fun x hx => by
    unfold inK at hw
    rw [List.all_eq_true] at hw
    have := hw x hx
    simp at this
    omega) hl
  constructor
  · show wts [.int r, .tup [wD w]] + 3 ≤ 100
    have e : wt (.tup [wD w]) = wts [wD w] + 3 := by rw [wt]
    have e2 : wts [wD w] = wt (wD w) + 2 + 0 := by rw [wts, wts]
    have e3 : wts [.int r, .tup [wD w]] = wt (.int r) + 2 + (wt (.tup [wD w]) + 2 + 0) := by rw [wts, wts, wts]
    omega
  · show isIns [.int r, .tup [wD w]] = true
    rw [isIns, isIns, isIns, a.2, isIn, isIns, isIns, b.2]; rfl
theorem dp_st1 (r : Int) (w : List Int) : dpD (st1 r w) ≤ 10 := by
  have := dp_ws [w]
  show dpDs [.int r, .tup ([w].map wD)] + 1 ≤ 10
  simp only [dpDs, dpD]
  omega
/-- the steps that are drawn -/
def ssB (ls : List Int) (still : Bool) : List Step := ls.map (fun a => ⟨0, [1, 0, a], 0⟩) ++ (if still then [⟨0, [0], 0⟩] else [])
def Lset (ls : List Int) : Prop := ls = [] ∨ ls = [0] ∨ ls = [1] ∨ ls = [0, 1]
theorem send_of {ls : List Int} {still : Bool} {rooms : Int} {ts : List Step} (hls : Lset ls) (hr : rooms = 1 ∨ rooms = 2) (hp : ts.Perm (ssB ls still)) (hs : (ts.map stepD).Pairwise (fun a b => ltD b a = false)) : SendSys ⟨2, rooms, 1, ts⟩ (LB ls) ∧ ts.length ≤ 3 := by
  have hmem : ∀ s ∈ ts, (∃ a ∈ ls, s = ⟨0, [1, 0, a], 0⟩) ∨ s = ⟨0, [0], 0⟩ := fun s h => by
    have := hp.mem_iff.mp h
    unfold ssB at this
    rcases List.mem_append.mp this with h | h
    · obtain ⟨a, ha, rfl⟩ := List.mem_map.mp h; exact .inl ⟨a, ha, rfl⟩
    · cases still
      · cases h
      · rw [if_pos rfl] at h; rw [List.mem_singleton.mp h]; exact .inr rfl
  have hl2 : ∀ a ∈ ls, 0 ≤ a ∧ a < 2 := fun a ha => by
    rcases hls with rfl | rfl | rfl | rfl <;> simp at ha <;> omega
  have hnd : ts.Nodup := by
    rw [hp.nodup_iff]
    rcases hls with rfl | rfl | rfl | rfl <;> cases still <;> decide
  have hlen : ts.length ≤ 3 := by
    rw [hp.length_eq]
    rcases hls with rfl | rfl | rfl | rfl <;> cases still <;> decide
  refine ⟨⟨⟨⟨by simp, by simp⟩, by show 1 ≤ rooms; omega, ⟨by simp, by simp⟩, fun s h => ?_, asc_steps hnd hs⟩, rfl, by show rooms ≤ 2; omega, by show ts.length ≤ 10; omega, fun s h => ?_, fun a h => ?_⟩, hlen⟩
  · rcases hmem s h with ⟨a, ha, rfl⟩ | rfl
    · refine ⟨⟨by simp, by show 0 < rooms; omega⟩, ⟨by simp, by show 0 < rooms; omega⟩, .inr ⟨1, 0, a, rfl, .inl rfl, by simp, by simp, (hl2 a ha).1, (hl2 a ha).2⟩⟩
    · exact ⟨⟨by decide, by show 0 < rooms; omega⟩, ⟨by decide, by show 0 < rooms; omega⟩, .inl rfl⟩
  · rcases hmem s h with ⟨a, ha, rfl⟩ | rfl
    · exact ⟨rfl, rfl, .inr ⟨a, rfl, by simpa [LB] using ha⟩⟩
    · exact ⟨rfl, rfl, .inl rfl⟩
  · have ha : a ∈ ls := by simpa [LB] using h
    refine ⟨⟨0, [1, 0, a], 0⟩, hp.mem_iff.mpr ?_, rfl⟩
    unfold ssB
    exact List.mem_append_left _ (List.mem_map.mpr ⟨a, ha, rfl⟩)
/-- [x for x in J if t] -/
theorem lc_filt {ex : EK} {δ : DSt} {M : Mm} {q : Kd} {g : DG} {e : DE} {t : DT} {vs : List Nat} {J : ItD} (f : D → Bool) (hl : J.items.length ≤ 1000) (hk : ∀ p o, M p = none → J.keep (mset M p o))
    (he : ∀ d p o (q1 : D → Mm → Prop) (q2 : Mm → Prop), d ∈ J.items → M p = none → (f d = true → q1 d (mset M p o)) → (f d = false → q2 (mset M p o)) → g d ex (wipeG δ vs) (mset M p o) fun δ2 M2 => t ex δ2 M2 fun c M3 => if c = true then e ex δ2 M3 q1 else q2 M3)
    (h : ∀ p, M p = none → q (.ref p) (mset M p (.lst (J.items.filter f)))) : LcD vs g t e ex δ J M q := by
  intro p hp
  refine ⟨fun j M' => M' = mset M p (.lst ((J.items.take j).filter f)), by simp, fun _ _ z => z ▸ hk _ _ hp, fun j d M' hd z => ?_, fun M' z => ?_⟩
  · subst z
    have hlen : ((J.items.take j).filter f).length < sizeLine := by
      have h1 := List.length_filter_le f (J.items.take j)
      have hj : j < J.items.length := by
        rcases Nat.lt_or_ge j J.items.length with h1 | h1
        · exact h1
        · rw [List.getElem?_eq_none h1] at hd; cases hd
      rw [List.length_take] at h1
      exact Nat.lt_of_lt_of_le (show _ < 1000 by omega) sz1000
    refine he d p _ (fun y M4 => ∃ acc, M4 p = some (.lst acc) ∧ acc.length < sizeLine ∧ Wm (fun M' => M' = mset M p (.lst ((J.items.take (j + 1)).filter f))) (mset M4 p (.lst (acc ++ [y])))) (fun M3 => Wm (fun M' => M' = mset M p (.lst ((J.items.take (j + 1)).filter f))) M3) (mem_get hd) hp (fun hf => ?_) (fun hf => ?_)
    · refine ⟨_, mset_same, hlen, Wm.of ?_⟩
      rw [mset_mset, take_get hd, List.filter_append]
      simp [hf]
    · refine Wm.of ?_
      rw [take_get hd, List.filter_append]
      simp [hf]
  · subst z
    rw [List.take_length]
    exact h p hp
end K98
set_option Elab.async false
set_option linter.all false
set_option maxRecDepth 100000
set_option maxHeartbeats 4000000
/-! k98: the law, in pieces. -/
namespace K98
open PySem PySem.Spec PyProof.Rows L2 Lk Wk98
def z_1 : DS := rSeq (rRet (rCst (.bl true))) rNext
def z_0_1_14 : DS := rSeq (rIfS (rOr (rAnd (rTB (rBin (oEq false) (rVar 4) (rCst (.int 2)))) (rTB (rBin (oEq true) (rBin oIx2 (rCall sp_comes 3 (rCons (rVar 9) (rCons (rVar 10) (rCons (rTup (rCons (rCst (.int 1)) (rCons (rTup (rCons (rTup rNil) rNil)) rNil))) rNil)))) (rCst (.int 0))) (rCst (.str "barrier"))))) (rTB (rBin (oEq true) (rArg bRepr (rCons (rLst (rCons (rVar 9) (rCons (rVar 10) (rCons (rVar 11) rNil)))) rNil)) (rVar 12)))) (rSeq (rRet (rCst (.bl false))) rNext) rNext) rNext
def z_0_1_13 : DS := rSeq (rIfS (rOr (rNot (rTru (rCall (sp_same 6) 2 (rCons (rLst (rCons (rCall sp_ahead 2 (rCons (rVar 9) (rCons (rVar 11) rNil))) (rCons (rCallK sp_ahead 2 [1, 0] (rCons (rVar 11) (rCons (rVar 9) rNil))) rNil))) (rCons (rLst (rCons (rVar 16) (rCons (rVar 16) rNil))) rNil))))) (rTB (rBin (oEq true) (rCall sp__law_strewn 2 (rCons (rVar 15) (rCons (rBin oIx2 (rBin oIx2 (rVar 10) (rCst (.int 1))) (rCst (.int 0))) rNil))) (rVar 14)))) (rSeq (rRet (rCst (.bl false))) rNext) rNext) (z_0_1_14)
def z_0_1_12 : DS := rSeq (rAsg (rBin oAdd (rTup (rCons (rTup (rCons (rTup (rCons (rArg bTuple (rCons (rVar 15) rNil)) rNil)) rNil)) rNil)) (rBin oMul2 (rTup (rCons (rTup rNil) rNil)) (rBin oSub (rVar 4) (rCst (.int 1))))) (rgName 16)) (z_0_1_13)
def z_0_1_11_1 : DS := rSeq (rAsg (rCut (rVar 15) rNoP (rPart (rUn oNeg (rCst (.int 1))))) (rgName 15)) rNext
def z_0_1_11_0 : DS := rSeq (rIfS (rTB (rBin (oIn2 true) (rVar 6) (rVar 7))) (rSeq rBrk rNext) rNext) (z_0_1_11_1)
def z_0_1_11 : DS := rSeq (rFor (rItV (rRev (rBin oIx2 (rBin oIx2 (rVar 11) (rCst (.int 1))) (rCst (.int 0))))) (rgName 6) (z_0_1_11_0)) (z_0_1_12)
def z_0_1_10 : DS := rSeq (rAsg (rArg bList2 (rCons (rBin oIx2 (rBin oIx2 (rVar 11) (rCst (.int 1))) (rCst (.int 0))) rNil)) (rgName 15)) (z_0_1_11)
def z_0_1_9 : DS := rSeq (rIfS (rOr (rTB (rBin (oIs true) (rCall sp_is_system 1 (rCons (rVar 9) rNil)) (rCst (.bl true)))) (rNot (rTru (rCall sp__law_paper_right 5 (rCons (rVar 9) (rCons (rVar 10) (rCons (rVar 11) (rCons (rVar 14) (rCons (rCall sp_comes 3 (rCons (rVar 9) (rCons (rVar 10) (rCons (rVar 11) rNil)))) rNil))))))))) (rSeq (rRet (rCst (.bl false))) rNext) rNext) (z_0_1_10)
def z_0_1_8 : DS := rSeq (rAsg (rCall sp_product_has 2 (rCons (rCall sp_reduced 2 (rCons (rCst (.int 2)) (rCons (rVar 13) rNil))) (rCons (rBin oIx2 (rBin oIx2 (rVar 11) (rCst (.int 1))) (rCst (.int 0))) rNil))) (rgName 14)) (z_0_1_9)
def z_0_1_7 : DS := rSeq (rAsg (rBin oAdd (rArg bTuple (rCons (rLc [6] (rItV (rBin oIx2 (rBin oIx2 (rVar 10) (rCst (.int 1))) (rCst (.int 0)))) (rgName 6) rYes (rTup (rCons (rCst (.str "one")) (rCons (rVar 6) rNil)))) rNil)) (rIf (rTB (rBin (oEq true) (rVar 7) (rTup rNil))) (rTup (rCons (rTup (rCons (rCst (.str "any")) (rCons (rVar 7) rNil))) rNil)) (rTup rNil))) (rgName 13)) (z_0_1_8)
def z_0_1_6 : DS := rSeq (rAsg (rArg bRepr (rCons (rLst (rCons (rVar 9) (rCons (rVar 10) (rCons (rVar 11) rNil)))) rNil)) (rgName 12)) (z_0_1_7)
def z_0_1_5 : DS := rSeq (rPar [10, 11] (rTup (rCons (rTup (rCons (rCst (.int 0)) (rCons (rTup (rCons (rCall sp__law_word 3 (rCons (rVar 2) (rCons (rCst (.int 2)) (rCons (rCst (.int 4)) rNil)))) rNil)) rNil))) (rCons (rTup (rCons (rCst (.int 0)) (rCons (rTup (rCons (rCall sp__law_word 3 (rCons (rVar 2) (rCons (rCst (.int 2)) (rCons (rCst (.int 4)) rNil)))) rNil)) rNil))) rNil)))) (z_0_1_6)
def z_0_1_4 : DS := rSeq (rAsg (rTup (rCons (rCst (.int 2)) (rCons (rVar 4) (rCons (rCst (.int 1)) (rCons (rArg bTuple (rCons (rArg bSorted (rCons (rVar 8) rNil)) rNil)) rNil))))) (rgName 9)) (z_0_1_5)
def z_0_1_3 : DS := rSeq (rIfS (rTB (rBin (oEq false) (rCall sp__law_take 2 (rCons (rVar 2) (rCons (rCst (.int 2)) rNil))) (rCst (.int 0)))) (rSeq (rDrop (rMt mAppend "list" (rVar 8) (rCons (rTup (rCons (rCst (.int 0)) (rCons (rTup (rCons (rCst (.int 0)) rNil)) (rCons (rCst (.int 0)) rNil)))) rNil))) rNext) rNext) (z_0_1_4)
def z_0_1_2 : DS := rSeq (rAsg (rLc [6] (rItV (rVar 7)) (rgName 6) rYes (rTup (rCons (rCst (.int 0)) (rCons (rTup (rCons (rCst (.int 1)) (rCons (rCst (.int 0)) (rCons (rVar 6) rNil)))) (rCons (rCst (.int 0)) rNil))))) (rgName 8)) (z_0_1_3)
def z_0_1_1 : DS := rSeq (rAsg (rArg bTuple (rCons (rLc [6] (rItR1 (rCons (rCst (.int 2)) rNil)) (rgName 6) (rTB (rBin (oEq false) (rBin oBAnd (rBin oShr (rVar 5) (rVar 6)) (rCst (.int 1))) (rCst (.int 1)))) (rVar 6)) rNil)) (rgName 7)) (z_0_1_2)
def z_0_1_0 : DS := rSeq (rAsg (rTup (rCons (rBin oAdd (rCst (.int 1)) (rCall sp__law_take 2 (rCons (rVar 2) (rCons (rCst (.int 2)) rNil)))) (rCons (rCall sp__law_take 2 (rCons (rVar 2) (rCons (rCst (.int 4)) rNil))) rNil))) (rgTup 2 (rgCons (rgName 4) (rgCons (rgName 5) rgNil)))) (z_0_1_1)
def z_0_1 : DS := rSeq (rFor (rItR1 (rCons (rCst (.int 3)) rNil)) (rgName 3) (z_0_1_0)) rNext
def z_0_0 : DS := rSeq (rAsg (rCall sp__law_well 2 (rCons (rVar 0) (rCons (rVar 1) rNil))) (rgName 2)) (z_0_1)
def z_0 : DS := rSeq (rFor (rItR1 (rCons (rArg bMax2 (rCons (rCst (.int 1)) (rCons (rArg bMin2 (rCons (rCst (.int 2)) (rCons (rArg bLen2 (rCons (rVar 0) rNil)) rNil))) rNil))) rNil)) (rgName 1) (z_0_0)) (z_1)
theorem z_eq : r_law sp__law_well sp__law_take sp__law_word sp_product_has sp_reduced sp_is_system sp__law_paper_right sp_comes (sp_same 6) sp_ahead sp__law_strewn = (z_0) := by
  delta r_law z_0 z_0_0 z_0_1 z_0_1_0 z_0_1_1 z_0_1_2 z_0_1_3 z_0_1_4 z_0_1_5 z_0_1_6 z_0_1_7 z_0_1_8 z_0_1_9 z_0_1_10 z_0_1_11 z_0_1_11_0 z_0_1_11_1 z_0_1_12 z_0_1_13 z_0_1_14 z_1
  rfl
def iv_b (xs : List D) (a : Addr) (i : Nat) (δ : DSt) (M' : Mm) : Prop := ∃ b1 b3 b4 b5 b6 b7 b8 b9 b10 b11 b12 b13 b14 b15 b16, δ = [some (.rol xs), b1, some (.ref a), b3, b4, b5, b6, b7, b8, b9, b10, b11, b12, b13, b14, b15, b16] ∧ ∃ o, M' a = some o ∧ WellO o
def shD (S : Sys) (v w : List Int) : Str := (PyData.list (toPys [sysD S, st1 0 v, st1 0 w])).shown
theorem rep {S : Sys} {L : Int → Bool} {v w : List Int} {M : Mm} {p : Addr} (Z : SendSys S L) (hk : S.k = 2) (hsl : S.steps.length ≤ 3) (hv : inK 2 v = true) (hvl : v.length ≤ 4) (hw : inK 2 w = true) (hl : w.length ≤ 4) (hp : M p = some (.lst [sysD S, st1 0 v, st1 0 w])) :
    PD M (.ref p) (.list (toPys [sysD S, st1 0 v, st1 0 w])) ∧ (PyData.list (toPys [sysD S, st1 0 v, st1 0 w])).showable = true ∧ (PyData.list (toPys [sysD S, st1 0 v, st1 0 w])).depth ≤ 60 ∧ (PyData.list (toPys [sysD S, st1 0 v, st1 0 w])).shown.length ≤ sizeLine ∧ (∃ ys, itemsOf M (.ref p) = some ys) := by
  have h1 := in_sys Z.ok (by have := Z.rooms; omega) (by omega)
  have h2 := in_st1 (r := 0) (by decide) (by decide) hv hvl
  have h3 := in_st1 (r := 0) (by decide) (by decide) hw hl
  have e : wts [sysD S, st1 0 v, st1 0 w] = wt (sysD S) + 2 + (wt (st1 0 v) + 2 + (wt (st1 0 w) + 2 + 0)) := by rw [wts, wts, wts, wts]
  refine repr_facts hp ?_ ?_ ?_
  · rw [isIns, isIns, isIns, isIns, h1.2, h2.2, h3.2]; rfl
  · have a := dp_sys S
    have b := dp_st1 0 v
    have c := dp_st1 0 w
    rw [dpDs, dpDs, dpDs, dpDs]; omega
  · exact Nat.le_trans (show _ ≤ 2000 by rw [e]; omega) (by decide)
/-- what is known from the words on -/
structure Cx98 (S : Sys) (ls : List Int) (v w : List Int) (a : Addr) (M : Mm) : Prop where
  Z : SendSys S (LB ls)
  k : S.k = 2
  sl : S.steps.length ≤ 3
  ls : Lset ls
  iv : inK 2 v = true
  vl : v.length ≤ 4
  iw : inK 2 w = true
  wl : w.length ≤ 4
  o : ∃ o, M a = some o ∧ WellO o
theorem Cx98.sub {S : Sys} {ls v w : List Int} {a : Addr} {M N : Mm} (C : Cx98 S ls v w a M) (s : Lk.Sub M N) : Cx98 S ls v w a N :=
  ⟨C.Z, C.k, C.sl, C.ls, C.iv, C.vl, C.iw, C.wl, let ⟨o, h, z⟩ := C.o; ⟨o, s _ _ h, z⟩⟩
theorem items_sub {M N : Mm} (s : Lk.Sub M N) {d : D} {xs : List D} (h : itemsOf M d = some xs) : itemsOf N d = some xs := by
  cases d <;> simp [itemsOf, lsOf] at h ⊢
  case tup ys => exact h
  case rol ys => exact h
  case ref a =>
    cases e : M a with
    | none => rw [e] at h; cases h
    | some o => rw [s _ _ e]; rw [e] at h; exact h
section
variable {ex : EK} {K : DEnds} {M : Mm} {xs : List D} {a : Addr} {S : Sys} {ls v w : List Int} {b1 b3 b5 b6 b7 b8 b13 b14 b15 b16 : Option D} {t : Nat}
theorem t14 (hK : ∀ δ M, iv_b xs a t δ M → K.nx δ M) (C : Cx98 S ls v w a M) :
    z_0_1_14 ex K [some (.rol xs), b1, some (.ref a), b3, some (.int S.rooms), b5, b6, b7, b8, some (sysD S), some (st1 0 v), some (st1 0 w), some (.str (shD S v w)), b13, b14, b15, b16] M := by
  obtain ⟨o, ha, ho⟩ := C.o
  have hR := C.Z.rooms
  have hR1 := C.Z.ok.rooms
  have fin : ∀ p, M p = none → ∃ pd, PD (mset M p (.lst [sysD S, st1 0 v, st1 0 w])) (.ref p) pd ∧ pd.showable = true ∧ pd.depth ≤ 60 ∧ pd.shown.length ≤ sizeLine ∧ (∃ ys, itemsOf (mset M p (.lst [sysD S, st1 0 v, st1 0 w])) (.ref p) = some ys) ∧ pd.shown = shD S v w := fun p hp => by
    obtain ⟨e1, e2, e3, e4, e5⟩ := rep (M := mset M p (.lst [sysD S, st1 0 v, st1 0 w])) (p := p) C.Z C.k C.sl C.iv C.vl C.iw C.wl mset_same
    exact ⟨_, e1, e2, e3, e4, e5, rfl⟩
  have e1 : ∀ p, M p = none → iv_b xs a t [some (.rol xs), b1, some (.ref a), b3, some (.int S.rooms), b5, b6, b7, b8, some (sysD S), some (st1 0 v), some (st1 0 w), some (.str (shD S v w)), b13, b14, b15, b16] (mset M p (.lst [sysD S, st1 0 v, st1 0 w])) := fun p hp =>
    ⟨_, _, _, _, _, _, _, _, _, _, _, _, _, _, _, rfl, o, keep_new ha hp, ho⟩
  simp [z_0_1_14]
  by_cases h2 : S.rooms = 2
  · refine .inr ⟨h2, S, _, 1, v, [], rfl, C.Z, rfl, rfl, by decide, by omega, by rw [C.k]; exact C.iv, by have := C.vl; omega, rfl, by decide, ?_⟩
    have : comesD S 1 (LB ls) v [] = .tup [.str "barrier", barsD S.rooms.toNat 1 (cut [] (last 1 (LB ls) []))] := by unfold comesD; rw [if_neg (by simp)]
    rw [this]
    simp
    intro p hp
    obtain ⟨pd, q1, q2, q3, q4, q5, q6⟩ := fin p hp
    exact ⟨pd, q1, q2, q3, q4, q5, .inl ⟨q6, hK _ _ (e1 p hp)⟩⟩
  · refine .inl ⟨h2, fun p hp => ?_⟩
    obtain ⟨pd, q1, q2, q3, q4, q5, q6⟩ := fin p hp
    exact ⟨pd, q1, q2, q3, q4, q5, .inl ⟨q6, hK _ _ (e1 p hp)⟩⟩
theorem t13 (hK : ∀ δ M, iv_b xs a t δ M → K.nx δ M) (C : Cx98 S ls v w a M) {left : D} (hl : itemsOf M left = some ((cut w (last 0 (LB ls) w)).map .int)) :
    z_0_1_13 ex K [some (.rol xs), b1, some (.ref a), b3, some (.int S.rooms), b5, b6, b7, b8, some (sysD S), some (st1 0 v), some (st1 0 w), some (.str (shD S v w)), b13, some (.bl ((cut w (last 0 (LB ls) w)).isSublist v)), some left, some (barsD S.rooms.toNat 0 (cut w (last 0 (LB ls) w)))] M := by
  have hR := C.Z.rooms
  have hR1 := C.Z.ok.rooms
  have hwl := C.wl
  have hvl := C.vl
  have hsb : ∀ M, SameD M 5 (barsD S.rooms.toNat 0 (cut w (last 0 (LB ls) w))) (barsD S.rooms.toNat 0 (cut w (last 0 (LB ls) w))) := fun M => (same_bars (by omega) (cutw_len (by omega))).up (by decide)
  have hiw : inK S.k w = true := by rw [C.k]; exact C.iw
  simp [z_0_1_13]
  refine ⟨S, _, 0, w, rfl, C.Z, rfl, by decide, by omega, hiw, by omega, ?_⟩
  refine ⟨S, _, 0, w, rfl, C.Z, rfl, by decide, by omega, hiw, by omega, ?_⟩
  intro p1 hp1 p2 hp2
  refine ⟨rlst (keep_new mset_same hp2) mset_same (by simp) (fun x hx => ?_), ?_⟩
  · simp at hx
    rw [hx]; exact hsb _
  have s2 := (Sub.new (o := .lst [barsD S.rooms.toNat 0 (cut w (last 0 (LB ls) w)), barsD S.rooms.toNat 0 (cut w (last 0 (LB ls) w))]) hp1).trans (Sub.new (o := .lst [barsD S.rooms.toNat 0 (cut w (last 0 (LB ls) w)), barsD S.rooms.toNat 0 (cut w (last 0 (LB ls) w))]) hp2)
  refine .inr ⟨rfl, cut w (last 0 (LB ls) w), v, ?_, rfl, by omega, ?_⟩
  · exact items_sub s2 hl
  simp
  exact t14 hK (C.sub s2)
theorem bars_eq {S : Sys} (hR : S.rooms ≤ 2) (hR1 : 1 ≤ S.rooms) (u : List Int) : D.tup ([D.tup [D.tup [wD u]]] ++ (List.replicate (S.rooms - 1).toNat [D.tup []]).flatten) = barsD S.rooms.toNat 0 u := by
  have : S.rooms = 1 ∨ S.rooms = 2 := by omega
  rcases this with e | e <;> rw [e] <;> rfl
theorem t12 (hK : ∀ δ M, iv_b xs a t δ M → K.nx δ M) (C : Cx98 S ls v w a M) {left : D} (hl : itemsOf M left = some ((cut w (last 0 (LB ls) w)).map .int)) :
    z_0_1_12 ex K [some (.rol xs), b1, some (.ref a), b3, some (.int S.rooms), b5, b6, b7, b8, some (sysD S), some (st1 0 v), some (st1 0 w), some (.str (shD S v w)), b13, some (.bl ((cut w (last 0 (LB ls) w)).isSublist v)), some left, b16] M := by
  have hR := C.Z.rooms
  have hR1 := C.Z.ok.rooms
  simp [z_0_1_12]
  refine ⟨_, hl, by omega, by omega, ?_, ?_⟩
  · refine Nat.le_trans (show _ ≤ 1000 by omega) sz1000
  have e := bars_eq hR hR1 (cut w (last 0 (LB ls) w))
  simp at e
  rw [e]
  exact t13 hK C hl
/-- what is left -/
def iv_l (xs : List D) (b1 b3 b5 b7 b8 b13 b16 : Option D) (a : Addr) (S : Sys) (ls v w : List Int) (i : Nat) (δ : DSt) (N : Mm) : Prop := ∃ b6 left, δ = [some (.rol xs), b1, some (.ref a), b3, some (.int S.rooms), b5, b6, b7, b8, some (sysD S), some (st1 0 v), some (st1 0 w), some (.str (shD S v w)), b13, some (.bl ((cut w (last 0 (LB ls) w)).isSublist v)), some (.ref left), b16] ∧
  Cx98 S ls v w a N ∧ i ≤ last 0 (LB ls) w ∧ N left = some (.lst ((cut w i).map .int))
theorem t11 (hK : ∀ δ M, iv_b xs a t δ M → K.nx δ M) (C : Cx98 S ls v w a M) {left : Addr} (hl : M left = some (.lst (w.map .int))) :
    z_0_1_11 ex K [some (.rol xs), b1, some (.ref a), b3, some (.int S.rooms), b5, b6, some (wD ls), b8, some (sysD S), some (st1 0 v), some (st1 0 w), some (.str (shD S v w)), b13, some (.bl ((cut w (last 0 (LB ls) w)).isSublist v)), some (.ref left), b16] M := by
  simp [z_0_1_11]
  refine for_by (iv_l xs b1 b3 b5 (some (wD ls)) b8 b13 b16 a S ls v w) ⟨_, _, rfl, C, Nat.zero_le _, by simpa [cut] using hl⟩ (fun _ _ _ _ => trivial) ?_ ?_
  · rintro i d δ N hd ⟨b6, left, rfl, C, hi, hl⟩
    have hd : (w.map D.int).reverse[i]? = some d := hd
    rw [← List.map_reverse] at hd
    obtain ⟨y, hy, rfl⟩ := get_int hd
    have hlt := last_lt hi
    rw [cut_last (Nat.le_trans hi last_le), hy] at hlt
    simp [z_0_1_11_0]
    refine oIn_ints ?_
    by_cases hm : y ∈ ls
    · have h1 : i < last 0 (LB ls) w := hlt.mpr ⟨rfl, y, rfl, by simpa [LB] using hm⟩
      simp [hm, z_0_1_11_1]
      refine ⟨_, u_ls_r hl, fun p hp => ?_⟩
      refine Wk.of ⟨_, p, rfl, C.sub (.new hp), by omega, ?_⟩
      rw [mset_same, cutD_init, cut_succ, List.map_dropLast]
    · have h1 : ¬ i < last 0 (LB ls) w := fun z => by
        obtain ⟨_, b, e, hb⟩ := hlt.mp z
        cases e
        exact hm (by simpa [LB] using hb)
      have h2 : i = last 0 (LB ls) w := by omega
      subst h2
      simp [hm]
      exact t12 hK C (u_items_r hl)
  · rintro δ N ⟨b6, left, rfl, C, hi, hl⟩
    have hi : ((w.map D.int).reverse).length ≤ last 0 (LB ls) w := hi
    have hl : N left = some (.lst ((cut w ((w.map D.int).reverse).length).map .int)) := hl
    rw [List.length_reverse, List.length_map] at hi hl
    have h2 : w.length = last 0 (LB ls) w := Nat.le_antisymm hi last_le
    rw [h2] at hl
    exact t12 hK C (u_items_r hl)
theorem t10 (hK : ∀ δ M, iv_b xs a t δ M → K.nx δ M) (C : Cx98 S ls v w a M) :
    z_0_1_10 ex K [some (.rol xs), b1, some (.ref a), b3, some (.int S.rooms), b5, b6, some (wD ls), b8, some (sysD S), some (st1 0 v), some (st1 0 w), some (.str (shD S v w)), b13, some (.bl ((cut w (last 0 (LB ls) w)).isSublist v)), b15, b16] M := by
  simp [z_0_1_10]
  refine ⟨_, rfl, fun p hp => ?_⟩
  exact t11 hK (C.sub (.new hp)) mset_same
theorem t9 (hK : ∀ δ M, iv_b xs a t δ M → K.nx δ M) (C : Cx98 S ls v w a M) :
    z_0_1_9 ex K [some (.rol xs), b1, some (.ref a), b3, some (.int S.rooms), b5, b6, some (wD ls), b8, some (sysD S), some (st1 0 v), some (st1 0 w), some (.str (shD S v w)), b13, some (.bl ((cut w (last 0 (LB ls) w)).isSublist v)), b15, b16] M := by
  have hR1 := C.Z.ok.rooms
  have hvl := C.vl
  have hwl := C.wl
  have hiv : inK S.k v = true := by rw [C.k]; exact C.iv
  have hiw : inK S.k w = true := by rw [C.k]; exact C.iw
  simp [z_0_1_9]
  refine ⟨S, rfl, C.Z.ok, ?_⟩
  refine .inl ⟨rfl, ?_⟩
  refine ⟨S, _, 0, v, w, rfl, C.Z, rfl, rfl, by decide, by omega, hiv, by omega, hiw, by omega, ?_⟩
  refine ⟨S, _, v, w, rfl, C.Z, rfl, rfl, rfl, hiv, by omega, hiw, by omega, rfl, ?_⟩
  exact .inr ⟨rfl, t10 hK C⟩
end
end K98
set_option Elab.async false
set_option linter.all false
set_option maxRecDepth 100000
set_option maxHeartbeats 4000000
/-! k98: the law. -/
namespace K98
open PySem PySem.Spec PyProof.Rows L2 Lk Wk98
section
variable {ex : EK} {K : DEnds} {M : Mm} {xs : List D} {a : Addr} {S : Sys} {ls v w : List Int} {b1 b3 b5 b6 b7 b8 b9 b10 b11 b12 b13 b14 b15 b16 : Option D} {t : Nat}
theorem at_ones {v ls : List Int} (hv : inK 2 v = true) (hls : Lset ls) : ∀ x ∈ v.map At.one ++ tailB ls, AtOk 2 x := by
  intro x hx
  rcases List.mem_append.mp hx with h | h
  · obtain ⟨y, hy, rfl⟩ := List.mem_map.mp h
    unfold inK at hv
    rw [List.all_eq_true] at hv
    have := hv y hy
    simpa [AtOk] using this
  · unfold tailB at h
    split at h
    · cases h
    · rename_i hne
      rw [List.mem_singleton.mp h]
      refine ⟨hne, ?_, ?_⟩
      · rcases hls with rfl | rfl | rfl | rfl <;> rfl
      · rcases hls with rfl | rfl | rfl | rfl
        · exact asc1 (by simp)
        · exact asc1 (by simp)
        · exact asc1 (by simp)
        · intro i x y hx hy
          have hi : i = 0 := by
            rcases Nat.eq_zero_or_pos i with h | h
            · exact h
            · rw [List.getElem?_eq_none (by simp; omega)] at hy; cases hy
          subst hi
          cases hx; cases hy
          exact ⟨.num 0, .num 1, by rw [keyOf], by rw [keyOf], by rw [okK], by simp [NestedKey.depth], by rw [ltK]; rfl⟩
theorem at3 {x : At} (h : AtOk 2 x) : AtOk 3 x := by
  cases x with
  | one y => exact ⟨h.1, by have := h.2; omega⟩
  | any ls =>
    refine ⟨h.1, ?_, h.2.2⟩
    have := h.2.1
    unfold inK at this ⊢
    rw [List.all_eq_true] at this ⊢
    intro y hy
    have := this y hy
    simp at this ⊢
    omega
theorem red_len {p : List At} : (redB p).length ≤ p.length := by
  have : ∀ (p u : List At), (p.foldl putB u).length ≤ u.length + p.length := by
    intro p
    induction p with
    | nil => intro u; simp
    | cons x p ih =>
      intro u
      have := ih (putB u x)
      have h2 := putB_len u x
      simp only [List.foldl_cons, List.length_cons]
      omega
  simpa [redB] using this p []
theorem red_mem {k : Int} {p : List At} (h : ∀ x ∈ p, AtOk k x) : ∀ x ∈ redB p, AtOk k x := by
  have : ∀ (p u : List At), (∀ x ∈ p, AtOk k x) → (∀ x ∈ u, AtOk k x) → ∀ x ∈ p.foldl putB u, AtOk k x := by
    intro p
    induction p with
    | nil => intro u _ h; exact h
    | cons y p ih =>
      intro u h1 h2
      refine ih _ (fun x hx => h1 x (List.mem_cons_of_mem _ hx)) ?_
      intro x hx
      unfold putB at hx
      split at hx
      · exact h2 x hx
      · rcases List.mem_append.mp hx with hx | hx
        · refine h2 x ?_
          have := (List.dropWhile_sublist (fun z => takesB y z) (l := u.reverse)).subset (List.mem_reverse.mp hx)
          exact List.mem_reverse.mp this
        · rw [List.mem_singleton.mp hx]; exact h1 y List.mem_cons_self
  exact this p [] h (by simp)
theorem t8 (hK : ∀ δ M, iv_b xs a t δ M → K.nx δ M) (C : Cx98 S ls v w a M) :
    z_0_1_8 ex K [some (.rol xs), b1, some (.ref a), b3, some (.int S.rooms), b5, b6, some (wD ls), b8, some (sysD S), some (st1 0 v), some (st1 0 w), some (.str (shD S v w)), some (atsD (v.map .one ++ tailB ls)), b14, b15, b16] M := by
  have hvl := C.vl
  have hl : (v.map At.one ++ tailB ls).length ≤ 5 := by
    rw [List.length_append, List.length_map]
    unfold tailB
    split <;> simp <;> omega
  have hat := at_ones C.iv C.ls
  simp [z_0_1_8, -List.map_append]
  refine ⟨_, rfl, by decide, by decide, hat, by omega, ?_⟩
  refine ⟨_, w, rfl, rfl, fun x hx => at3 (red_mem hat x hx), ?_, Nat.lt_of_le_of_lt red_len (by omega), ?_, ?_⟩
  · rw [red_any, red_again]
  · have := C.iw
    unfold inK at this ⊢
    rw [List.all_eq_true] at this ⊢
    intro y hy
    have := this y hy
    simp at this ⊢
    omega
  rw [due_eq]
  exact t9 hK C
theorem t7 (hK : ∀ δ M, iv_b xs a t δ M → K.nx δ M) (C : Cx98 S ls v w a M) :
    z_0_1_7 ex K [some (.rol xs), b1, some (.ref a), b3, some (.int S.rooms), b5, b6, some (wD ls), b8, some (sysD S), some (st1 0 v), some (st1 0 w), some (.str (shD S v w)), b13, b14, b15, b16] M := by
  have hvl := C.vl
  simp [z_0_1_7]
  refine lc_map (fun d => .tup [.str "one", d]) ?_ (fun _ _ _ => trivial) (fun d q' p o hd hp z => ?_) (fun p hp => ?_)
  · show (v.map D.int).length ≤ sizeLine
    rw [List.length_map]; exact Nat.le_trans (show _ ≤ 1000 by omega) sz1000
  · simpa [wipeG] using z
  · refine ⟨_, u_items_r mset_same, ?_⟩
    have h8 := t8 (b14 := b14) (b15 := b15) (b16 := b16) (b1 := b1) (b3 := b3) (b5 := b5) (b6 := b6) (b8 := b8) (ex := ex) hK (C.sub (N := mset M p (.lst ((v.map D.int).map fun d => .tup [.str "one", d]))) (.new hp))
    have e : (v.map D.int).map (fun d => D.tup [.str "one", d]) = (v.map At.one).map atD := by
      rw [List.map_map, List.map_map]; rfl
    show oEq true (.tup (ls.map D.int)) (.tup []) _ _
    refine oEq_ints (v := ls) (w := []) ?_
    have hsz : v.length + 1 ≤ sizeLine := Nat.le_trans (show _ ≤ 1000 by omega) sz1000
    generalize mset M p (.lst ((v.map D.int).map fun d => .tup [.str "one", d])) = N at h8 ⊢
    by_cases hn : ls = []
    · subst hn
      refine .inl ⟨by simp, ?_, ?_⟩
      · show ((v.map D.int).map _).length ≤ sizeLine
        rw [List.length_map, List.length_map]; omega
      · have e2 : D.tup ((v.map D.int).map (fun d => D.tup [.str "one", d])) = atsD (v.map At.one ++ tailB []) := by
          rw [e]; simp [tailB]
        rw [← e2] at h8
        exact h8
    · refine .inr ⟨by simp [hn], ?_⟩
      have e2 : D.tup ((v.map D.int).map (fun d => D.tup [.str "one", d]) ++ [D.tup [.str "any", wD ls]]) = atsD (v.map At.one ++ tailB ls) := by
        rw [e]; simp [tailB, hn]
      rw [← e2] at h8
      refine ⟨?_, h8⟩
      show ((v.map D.int).map _).length + 1 ≤ sizeLine
      rw [List.length_map, List.length_map]; omega
theorem t6 (hK : ∀ δ M, iv_b xs a t δ M → K.nx δ M) (C : Cx98 S ls v w a M) :
    z_0_1_6 ex K [some (.rol xs), b1, some (.ref a), b3, some (.int S.rooms), b5, b6, some (wD ls), b8, some (sysD S), some (st1 0 v), some (st1 0 w), b12, b13, b14, b15, b16] M := by
  simp [z_0_1_6]
  intro p hp
  obtain ⟨e1, e2, e3, e4, e5⟩ := rep (M := mset M p (.lst [sysD S, st1 0 v, st1 0 w])) (p := p) C.Z C.k C.sl C.iv C.vl C.iw C.wl mset_same
  exact ⟨_, e1, e2, e3, e4, e5, t7 hK (C.sub (.new hp))⟩
theorem t5 (hK : ∀ δ M, iv_b xs a t δ M → K.nx δ M) (Z : SendSys S (LB ls)) (hk : S.k = 2) (hsl : S.steps.length ≤ 3) (hls : Lset ls) (ho : ∃ o, M a = some o ∧ WellO o) :
    z_0_1_5 ex K [some (.rol xs), b1, some (.ref a), b3, some (.int S.rooms), b5, b6, some (wD ls), b8, some (sysD S), b10, b11, b12, b13, b14, b15, b16] M := by
  obtain ⟨o, ha, ho⟩ := ho
  simp [z_0_1_5]
  refine ⟨o, ha, ho, by decide, by decide, by decide, by decide, fun v o1 hv hvl ho1 => ?_⟩
  refine ⟨o1, mset_same, ho1, by decide, by decide, by decide, by decide, fun w o2 hw hwl ho2 => ?_⟩
  rw [mset_mset]
  exact t6 hK ⟨Z, hk, hsl, hls, hv, by omega, hw, by omega, o2, mset_same, ho2⟩
theorem t4 (hK : ∀ δ M, iv_b xs a t δ M → K.nx δ M) (hls : Lset ls) (ho : ∃ o, M a = some o ∧ WellO o) {ps : Addr} {still : Bool} {rooms : Int} (hr : rooms = 1 ∨ rooms = 2) (hps : M ps = some (.lst ((ssB ls still).map stepD))) :
    z_0_1_4 ex K [some (.rol xs), b1, some (.ref a), b3, some (.int rooms), b5, b6, some (wD ls), some (.ref ps), b9, b10, b11, b12, b13, b14, b15, b16] M := by
  obtain ⟨o, ha, ho⟩ := ho
  simp [z_0_1_4, walkOf, hps]
  refine ⟨_, keysOf_steps _, allOk_steps _, fun p ys hp hperm hpw => ?_⟩
  obtain ⟨ts, rfl, hts⟩ := perm_steps hperm
  obtain ⟨Z, hl⟩ := send_of hls hr hts hpw
  refine ⟨_, u_items_r mset_same, ?_⟩
  exact t5 (S := ⟨2, rooms, 1, ts⟩) hK Z rfl hl hls ⟨o, keep_new ha hp, ho⟩
theorem t3 (hK : ∀ δ M, iv_b xs a t δ M → K.nx δ M) (hls : Lset ls) (ho : ∃ o, M a = some o ∧ WellO o) {ps : Addr} {rooms : Int} (hr : rooms = 1 ∨ rooms = 2) (hps : M ps = some (.lst ((ssB ls false).map stepD))) (hne : a ≠ ps) :
    z_0_1_3 ex K [some (.rol xs), b1, some (.ref a), b3, some (.int rooms), b5, b6, some (wD ls), some (.ref ps), b9, b10, b11, b12, b13, b14, b15, b16] M := by
  obtain ⟨o, ha, ho⟩ := ho
  simp [z_0_1_3]
  refine ⟨o, ha, ho, by decide, by decide, fun r o1 r0 r1 ho1 => ?_⟩
  have hp1 : mset M a o1 ps = some (.lst ((ssB ls false).map stepD)) := (mset_ne hne.symm).trans hps
  simp
  by_cases h0 : r = 0
  · refine .inr ⟨h0, ty_ref hp1, ps, _, _, rfl, rfl, hp1, ?_, ?_⟩
    · refine Nat.lt_of_lt_of_le (show _ < 1000 from ?_) sz1000
      rcases hls with rfl | rfl | rfl | rfl <;> decide
    refine t4 (still := true) hK hls ⟨o1, (mset_ne hne).trans mset_same, ho1⟩ hr ?_
    rw [mset_same]
    unfold ssB
    simp
  · exact .inl ⟨h0, t4 (still := false) hK hls ⟨o1, mset_same, ho1⟩ hr hp1⟩
theorem t2 (hK : ∀ δ M, iv_b xs a t δ M → K.nx δ M) (hls : Lset ls) (ho : ∃ o, M a = some o ∧ WellO o) {rooms : Int} (hr : rooms = 1 ∨ rooms = 2) :
    z_0_1_2 ex K [some (.rol xs), b1, some (.ref a), b3, some (.int rooms), b5, b6, some (wD ls), b8, b9, b10, b11, b12, b13, b14, b15, b16] M := by
  obtain ⟨o, ha, ho⟩ := ho
  simp [z_0_1_2]
  refine lc_map (fun d => .tup [.int 0, .tup [.int 1, .int 0, d], .int 0]) ?_ (fun _ _ _ => trivial) (fun d q' p o hd hp z => ?_) (fun p hp => ?_)
  · show (ls.map D.int).length ≤ sizeLine
    refine Nat.le_trans (show _ ≤ 1000 from ?_) sz1000
    rcases hls with rfl | rfl | rfl | rfl <;> decide
  · simpa [wipeG] using z
  · refine t3 hK hls ⟨o, keep_new ha hp, ho⟩ hr ?_ (ne_none ha hp)
    rw [mset_same]
    unfold ssB
    simp
theorem t1 (hK : ∀ δ M, iv_b xs a t δ M → K.nx δ M) (ho : ∃ o, M a = some o ∧ WellO o) {rooms bits : Int} (hr : rooms = 1 ∨ rooms = 2) (hb : 0 ≤ bits ∧ bits < 4) :
    z_0_1_1 ex K [some (.rol xs), b1, some (.ref a), b3, some (.int rooms), some (.int bits), b6, b7, b8, b9, b10, b11, b12, b13, b14, b15, b16] M := by
  obtain ⟨o, ha, ho⟩ := ho
  simp [z_0_1_1]
  refine lc_filt (fun d => match d with
    | .int j => decide (Builtin.bitAnd (bits / 2 ^ j.toNat) 1 = 1)
    | _ => false) (by show (rangeD 0 2).length ≤ 1000; rw [rangeD_length]; decide) (fun _ _ _ => trivial) (fun d p o q1 q2 hd hp z1 z2 => ?_) (fun p hp => ?_)
  · obtain ⟨j, hj, rfl⟩ := rangeD_mem hd
    simp only at z1 z2
    simp [wipeG, oBAnd, oShr, oI2]
    by_cases hc : Builtin.bitAnd (bits / 2 ^ j) 1 = 1
    · exact .inr ⟨hc, z1 (by simpa using hc)⟩
    · exact .inl ⟨hc, z2 (by simpa using hc)⟩
  · refine ⟨_, u_items_r mset_same, ?_⟩
    have key : ∃ ls, Lset ls ∧ (rangeD 0 2).filter (fun d => match d with
      | .int j => decide (Builtin.bitAnd (bits / 2 ^ j.toNat) 1 = 1)
      | _ => false) = ls.map .int := by
      have : bits = 0 ∨ bits = 1 ∨ bits = 2 ∨ bits = 3 := by omega
      rcases this with rfl | rfl | rfl | rfl
      · exact ⟨[], .inl rfl, by rfl⟩
      · exact ⟨[0], .inr (.inl rfl), by rfl⟩
      · exact ⟨[1], .inr (.inr (.inl rfl)), by rfl⟩
      · exact ⟨[0, 1], .inr (.inr (.inr rfl)), by rfl⟩
    obtain ⟨ls, hls, e⟩ := key
    show z_0_1_2 ex K _ _
    have e' : (ItD.mk (rangeD 0 2) fun _ => True).items.filter (fun d => match d with
      | .int j => decide (Builtin.bitAnd (bits / 2 ^ j.toNat) 1 = 1)
      | _ => false) = ls.map .int := e
    rw [e']
    exact t2 hK hls ⟨o, keep_new ha hp, ho⟩ hr
theorem t0 (hK : ∀ δ M, iv_b xs a t δ M → K.nx δ M) (ho : ∃ o, M a = some o ∧ WellO o) {b2 b4 : Option D} :
    z_0_1_0 ex K [some (.rol xs), b1, some (.ref a), b3, b4, b5, b6, b7, b8, b9, b10, b11, b12, b13, b14, b15, b16] M := by
  obtain ⟨o, ha, ho⟩ := ho
  simp [z_0_1_0]
  refine ⟨o, ha, ho, by decide, by decide, fun rm o1 r0 r1 ho1 => ?_⟩
  refine ⟨o1, mset_same, ho1, by decide, by decide, fun bits o2 q0 q1 ho2 => ?_⟩
  rw [mset_mset]
  exact t1 hK ⟨o2, mset_same, ho2⟩ (by omega) ⟨q0, q1⟩
end
def iv_a (xs : List D) (i : Nat) (δ : DSt) (M' : Mm) : Prop := ∃ b1 b2 b3 b4 b5 b6 b7 b8 b9 b10 b11 b12 b13 b14 b15 b16, δ = [some (.rol xs), b1, b2, b3, b4, b5, b6, b7, b8, b9, b10, b11, b12, b13, b14, b15, b16]
def sp_law : DSp := fun ds M q _ => ∃ ns : List Int, ds = [.rol (ns.map .int)] ∧ ∀ M', q (.bl true) M'
theorem pl_law : PL ["script", "at", "well", "turn", "rooms", "bits", "letter", "letters", "steps", "system", "start", "goal", "kept", "atoms", "due", "left", "bars"] (r_law sp__law_well sp__law_take sp__law_word sp_product_has sp_reduced sp_is_system sp__law_paper_right sp_comes (sp_same 6) sp_ahead sp__law_strewn) sp_law := by
  intro ds M q ex h
  obtain ⟨ns, rfl, h⟩ := h
  rw [z_eq]
  simp [z_0, startD]
  have hm0 : (0 : Int) ≤ (if 1 < (if (ns.length : Int) < 2 then (ns.length : Int) else 2) then (if (ns.length : Int) < 2 then (ns.length : Int) else 2) else 1) ∧ (if 1 < (if (ns.length : Int) < 2 then (ns.length : Int) else 2) then (if (ns.length : Int) < 2 then (ns.length : Int) else 2) else 1) ≤ (3 : Int) := by
    constructor <;> (repeat' split) <;> omega
  revert hm0
  generalize (if 1 < (if (ns.length : Int) < 2 then (ns.length : Int) else 2) then (if (ns.length : Int) < 2 then (ns.length : Int) else 2) else 1) = m
  intro hm0
  refine ⟨by omega, by omega, ?_⟩
  refine for_by (iv_a (ns.map .int)) ⟨_, _, _, _, _, _, _, _, _, _, _, _, _, _, _, _, rfl⟩ (fun _ _ _ _ => trivial) ?_ ?_
  · rintro i d δ M1 hd ⟨b1, b2, b3, b4, b5, b6, b7, b8, b9, b10, b11, b12, b13, b14, b15, b16, rfl⟩
    obtain ⟨hi, rfl⟩ := rangeD_get hd
    simp [z_0_0]
    refine ⟨ns, rfl, by omega, by omega, fun a o0 ha0 ho0 => ?_⟩
    simp [z_0_1]
    refine for_by (iv_b (ns.map .int) a) ⟨_, _, _, _, _, _, _, _, _, _, _, _, _, _, _, rfl, o0, mset_same, ho0⟩ (fun _ _ _ _ => trivial) ?_ ?_
    · rintro t d δ M2 hd ⟨b1, b3, b4, b5, b6, b7, b8, b9, b10, b11, b12, b13, b14, b15, b16, rfl, ho⟩
      obtain ⟨ht, rfl⟩ := rangeD_get hd
      simp
      exact t0 (t := t + 1) (b2 := none) (fun δ M h => Wk.of h) ho
    · rintro δ M2 ⟨b1, b3, b4, b5, b6, b7, b8, b9, b10, b11, b12, b13, b14, b15, b16, rfl, _⟩
      simp
      exact Wk.of ⟨_, _, _, _, _, _, _, _, _, _, _, _, _, _, _, _, rfl⟩
  · rintro δ M1 ⟨b1, b2, b3, b4, b5, b6, b7, b8, b9, b10, b11, b12, b13, b14, b15, b16, rfl⟩
    simp [z_1]
    exact Wq.of (h M1)
end K98
set_option Elab.async false
set_option linter.all false
set_option maxRecDepth 100000
set_option maxHeartbeats 0
/-! printed by gen.py: the facts and the head. -/
namespace F98
open PySem PySem.Spec PyProof.Rows L2 Lk Wk98
theorem facts {P : Program} {w : World} {K : PySem.W.Frag} {h : Heap} {mg : Str → Option Value} (KX : K.In h) (NS : h.Ns mainGlobals mg) (D : He.SaysD fa fn K) :
    ∃ fd : FuncData, (∀ (s : Shared) (u : Value), BindsTo s fd ⟨[u], []⟩ [("script", u)]) ∧ ∀ base : Heap, (∀ p ∈ tf.map (He.cT K), GxR.TabB base mg p.1 p.2) → FnL ⟨P, w, K, (tf.map (He.cT K)).map (·.2)⟩ mg base CX0 13 (He.fAd K ("law", none)) fd ["script"] K98.sp_law := by
  have G : Gm mg := ⟨He.free_ok KX NS (D.fact 53 (f := .free "abs") rfl), He.free_ok KX NS (D.fact 54 (f := .free "all") rfl), He.free_ok KX NS (D.fact 55 (f := .free "any") rfl), He.free_ok KX NS (D.fact 56 (f := .free "bool") rfl), He.free_ok KX NS (D.fact 57 (f := .free "enumerate") rfl), He.free_ok KX NS (D.fact 58 (f := .free "int") rfl), He.free_ok KX NS (D.fact 59 (f := .free "isinstance") rfl), He.free_ok KX NS (D.fact 60 (f := .free "len") rfl), He.free_ok KX NS (D.fact 61 (f := .free "list") rfl), He.free_ok KX NS (D.fact 62 (f := .free "max") rfl), He.free_ok KX NS (D.fact 63 (f := .free "min") rfl), He.free_ok KX NS (D.fact 64 (f := .free "range") rfl), He.free_ok KX NS (D.fact 65 (f := .free "repr") rfl), He.free_ok KX NS (D.fact 66 (f := .free "sorted") rfl), He.free_ok KX NS (D.fact 67 (f := .free "str") rfl), He.free_ok KX NS (D.fact 68 (f := .free "tuple") rfl), He.free_ok KX NS (D.fact 69 (f := .free "zip") rfl), He.int_ok KX NS (D.fact 70 (f := .int "MOST_LETTERS" 3) rfl), He.int_ok KX NS (D.fact 71 (f := .int "MOST_ROADS" 2) rfl), He.int_ok KX NS (D.fact 72 (f := .int "SEND" 1) rfl)⟩
  obtain ⟨fd_is_integer, F_is_integer⟩ := D.def_ 0 (d := d_is_integer) rfl
  have g_is_integer : mg "is_integer" = some (.ref (He.fAd K ("is_integer", none))) := He.glo_ok KX NS (D.fact 0 (f := .glo "is_integer") rfl)
  obtain ⟨fd_is_natural, F_is_natural⟩ := D.def_ 1 (d := d_is_natural) rfl
  have g_is_natural : mg "is_natural" = some (.ref (He.fAd K ("is_natural", none))) := He.glo_ok KX NS (D.fact 1 (f := .glo "is_natural") rfl)
  obtain ⟨fd_is_below, F_is_below⟩ := D.def_ 2 (d := d_is_below) rfl
  have g_is_below : mg "is_below" = some (.ref (He.fAd K ("is_below", none))) := He.glo_ok KX NS (D.fact 2 (f := .glo "is_below") rfl)
  obtain ⟨fd_is_between, F_is_between⟩ := D.def_ 3 (d := d_is_between) rfl
  have g_is_between : mg "is_between" = some (.ref (He.fAd K ("is_between", none))) := He.glo_ok KX NS (D.fact 3 (f := .glo "is_between") rfl)
  obtain ⟨fd_is_k, F_is_k⟩ := D.def_ 4 (d := d_is_k) rfl
  have g_is_k : mg "is_k" = some (.ref (He.fAd K ("is_k", none))) := He.glo_ok KX NS (D.fact 4 (f := .glo "is_k") rfl)
  obtain ⟨fd_is_letters, F_is_letters⟩ := D.def_ 5 (d := d_is_letters) rfl
  have g_is_letters : mg "is_letters" = some (.ref (He.fAd K ("is_letters", none))) := He.glo_ok KX NS (D.fact 5 (f := .glo "is_letters") rfl)
  obtain ⟨fd_check_k, F_check_k⟩ := D.def_ 6 (d := d_check_k) rfl
  have g_check_k : mg "check_k" = some (.ref (He.fAd K ("check_k", none))) := He.glo_ok KX NS (D.fact 6 (f := .glo "check_k") rfl)
  obtain ⟨fd_is_ascending, F_is_ascending⟩ := D.def_ 7 (d := d_is_ascending) rfl
  have g_is_ascending : mg "is_ascending" = some (.ref (He.fAd K ("is_ascending", none))) := He.glo_ok KX NS (D.fact 7 (f := .glo "is_ascending") rfl)
  obtain ⟨fd_is_word_of, F_is_word_of⟩ := D.def_ 8 (d := d_is_word_of) rfl
  have g_is_word_of : mg "is_word_of" = some (.ref (He.fAd K ("is_word_of", none))) := He.glo_ok KX NS (D.fact 8 (f := .glo "is_word_of") rfl)
  obtain ⟨fd_check_word, F_check_word⟩ := D.def_ 9 (d := d_check_word) rfl
  have g_check_word : mg "check_word" = some (.ref (He.fAd K ("check_word", none))) := He.glo_ok KX NS (D.fact 9 (f := .glo "check_word") rfl)
  obtain ⟨fd_found_in, F_found_in⟩ := D.def_ 10 (d := d_found_in) rfl
  have g_found_in : mg "found_in" = some (.ref (He.fAd K ("found_in", none))) := He.glo_ok KX NS (D.fact 10 (f := .glo "found_in") rfl)
  obtain ⟨fd_strewn_in, F_strewn_in⟩ := D.def_ 11 (d := d_strewn_in) rfl
  have g_strewn_in : mg "strewn_in" = some (.ref (He.fAd K ("strewn_in", none))) := He.glo_ok KX NS (D.fact 11 (f := .glo "strewn_in") rfl)
  obtain ⟨fd_is_deed, F_is_deed⟩ := D.def_ 12 (d := d_is_deed) rfl
  have g_is_deed : mg "is_deed" = some (.ref (He.fAd K ("is_deed", none))) := He.glo_ok KX NS (D.fact 12 (f := .glo "is_deed") rfl)
  obtain ⟨fd_is_step, F_is_step⟩ := D.def_ 13 (d := d_is_step) rfl
  have g_is_step : mg "is_step" = some (.ref (He.fAd K ("is_step", none))) := He.glo_ok KX NS (D.fact 13 (f := .glo "is_step") rfl)
  obtain ⟨fd_is_system, F_is_system⟩ := D.def_ 14 (d := d_is_system) rfl
  have g_is_system : mg "is_system" = some (.ref (He.fAd K ("is_system", none))) := He.glo_ok KX NS (D.fact 14 (f := .glo "is_system") rfl)
  obtain ⟨fd_check_system, F_check_system⟩ := D.def_ 15 (d := d_check_system) rfl
  have g_check_system : mg "check_system" = some (.ref (He.fAd K ("check_system", none))) := He.glo_ok KX NS (D.fact 15 (f := .glo "check_system") rfl)
  obtain ⟨fd_are_words, F_are_words⟩ := D.def_ 16 (d := d_are_words) rfl
  have g_are_words : mg "are_words" = some (.ref (He.fAd K ("are_words", none))) := He.glo_ok KX NS (D.fact 16 (f := .glo "are_words") rfl)
  obtain ⟨fd_is_stand_in, F_is_stand_in⟩ := D.def_ 17 (d := d_is_stand_in) rfl
  have g_is_stand_in : mg "is_stand_in" = some (.ref (He.fAd K ("is_stand_in", none))) := He.glo_ok KX NS (D.fact 17 (f := .glo "is_stand_in") rfl)
  obtain ⟨fd_check_stand, F_check_stand⟩ := D.def_ 18 (d := d_check_stand) rfl
  have g_check_stand : mg "check_stand" = some (.ref (He.fAd K ("check_stand", none))) := He.glo_ok KX NS (D.fact 18 (f := .glo "check_stand") rfl)
  obtain ⟨fd_are_strewn, F_are_strewn⟩ := D.def_ 19 (d := d_are_strewn) rfl
  have g_are_strewn : mg "are_strewn" = some (.ref (He.fAd K ("are_strewn", none))) := He.glo_ok KX NS (D.fact 19 (f := .glo "are_strewn") rfl)
  obtain ⟨fd_with_word, F_with_word⟩ := D.def_ 20 (d := d_with_word) rfl
  have g_with_word : mg "with_word" = some (.ref (He.fAd K ("with_word", none))) := He.glo_ok KX NS (D.fact 20 (f := .glo "with_word") rfl)
  obtain ⟨fd_words_ahead, F_words_ahead⟩ := D.def_ 21 (d := d_words_ahead) rfl
  have g_words_ahead : mg "words_ahead" = some (.ref (He.fAd K ("words_ahead", none))) := He.glo_ok KX NS (D.fact 21 (f := .glo "words_ahead") rfl)
  obtain ⟨fd_leads_in, F_leads_in⟩ := D.def_ 22 (d := d_leads_in) rfl
  have g_leads_in : mg "leads_in" = some (.ref (He.fAd K ("leads_in", none))) := He.glo_ok KX NS (D.fact 22 (f := .glo "leads_in") rfl)
  obtain ⟨fd_is_at, F_is_at⟩ := D.def_ 23 (d := d_is_at) rfl
  have g_is_at : mg "is_at" = some (.ref (He.fAd K ("is_at", none))) := He.glo_ok KX NS (D.fact 23 (f := .glo "is_at") rfl)
  obtain ⟨fd_ways_to, F_ways_to⟩ := D.def_ 24 (d := d_ways_to) rfl
  have g_ways_to : mg "ways_to" = some (.ref (He.fAd K ("ways_to", none))) := He.glo_ok KX NS (D.fact 24 (f := .glo "ways_to") rfl)
  obtain ⟨fd_run_from, F_run_from⟩ := D.def_ 25 (d := d_run_from) rfl
  have g_run_from : mg "run_from" = some (.ref (He.fAd K ("run_from", none))) := He.glo_ok KX NS (D.fact 25 (f := .glo "run_from") rfl)
  obtain ⟨fd_is_run, F_is_run⟩ := D.def_ 26 (d := d_is_run) rfl
  have g_is_run : mg "is_run" = some (.ref (He.fAd K ("is_run", none))) := He.glo_ok KX NS (D.fact 26 (f := .glo "is_run") rfl)
  obtain ⟨fd_are_least, F_are_least⟩ := D.def_ 27 (d := d_are_least) rfl
  have g_are_least : mg "are_least" = some (.ref (He.fAd K ("are_least", none))) := He.glo_ok KX NS (D.fact 27 (f := .glo "are_least") rfl)
  obtain ⟨fd_are_bars, F_are_bars⟩ := D.def_ 28 (d := d_are_bars) rfl
  have g_are_bars : mg "are_bars" = some (.ref (He.fAd K ("are_bars", none))) := He.glo_ok KX NS (D.fact 28 (f := .glo "are_bars") rfl)
  obtain ⟨fd_is_closed, F_is_closed⟩ := D.def_ 29 (d := d_is_closed) rfl
  have g_is_closed : mg "is_closed" = some (.ref (He.fAd K ("is_closed", none))) := He.glo_ok KX NS (D.fact 29 (f := .glo "is_closed") rfl)
  obtain ⟨fd_leads_on, F_leads_on⟩ := D.def_ 30 (d := d_leads_on) rfl
  have g_leads_on : mg "leads_on" = some (.ref (He.fAd K ("leads_on", none))) := He.glo_ok KX NS (D.fact 30 (f := .glo "leads_on") rfl)
  obtain ⟨fd_ahead, F_ahead⟩ := D.def_ 31 (d := d_ahead) rfl
  have g_ahead : mg "ahead" = some (.ref (He.fAd K ("ahead", none))) := He.glo_ok KX NS (D.fact 31 (f := .glo "ahead") rfl)
  obtain ⟨fd_comes, F_comes⟩ := D.def_ 32 (d := d_comes) rfl
  have g_comes : mg "comes" = some (.ref (He.fAd K ("comes", none))) := He.glo_ok KX NS (D.fact 32 (f := .glo "comes") rfl)
  obtain ⟨fd_judge_comes, F_judge_comes⟩ := D.def_ 33 (d := d_judge_comes) rfl
  have g_judge_comes : mg "judge_comes" = some (.ref (He.fAd K ("judge_comes", none))) := He.glo_ok KX NS (D.fact 33 (f := .glo "judge_comes") rfl)
  obtain ⟨fd_is_atom, F_is_atom⟩ := D.def_ 34 (d := d_is_atom) rfl
  have g_is_atom : mg "is_atom" = some (.ref (He.fAd K ("is_atom", none))) := He.glo_ok KX NS (D.fact 34 (f := .glo "is_atom") rfl)
  obtain ⟨fd_are_atoms, F_are_atoms⟩ := D.def_ 35 (d := d_are_atoms) rfl
  have g_are_atoms : mg "are_atoms" = some (.ref (He.fAd K ("are_atoms", none))) := He.glo_ok KX NS (D.fact 35 (f := .glo "are_atoms") rfl)
  obtain ⟨fd_fits, F_fits⟩ := D.def_ 36 (d := d_fits) rfl
  have g_fits : mg "fits" = some (.ref (He.fAd K ("fits", none))) := He.glo_ok KX NS (D.fact 36 (f := .glo "fits") rfl)
  obtain ⟨fd_takes_up, F_takes_up⟩ := D.def_ 37 (d := d_takes_up) rfl
  have g_takes_up : mg "takes_up" = some (.ref (He.fAd K ("takes_up", none))) := He.glo_ok KX NS (D.fact 37 (f := .glo "takes_up") rfl)
  obtain ⟨fd_put_behind, F_put_behind⟩ := D.def_ 38 (d := d_put_behind) rfl
  have g_put_behind : mg "put_behind" = some (.ref (He.fAd K ("put_behind", none))) := He.glo_ok KX NS (D.fact 38 (f := .glo "put_behind") rfl)
  obtain ⟨fd_reduced_in, F_reduced_in⟩ := D.def_ 39 (d := d_reduced_in) rfl
  have g_reduced_in : mg "reduced_in" = some (.ref (He.fAd K ("reduced_in", none))) := He.glo_ok KX NS (D.fact 39 (f := .glo "reduced_in") rfl)
  obtain ⟨fd_rest_behind, F_rest_behind⟩ := D.def_ 40 (d := d_rest_behind) rfl
  have g_rest_behind : mg "rest_behind" = some (.ref (He.fAd K ("rest_behind", none))) := He.glo_ok KX NS (D.fact 40 (f := .glo "rest_behind") rfl)
  obtain ⟨fd_product_has_in, F_product_has_in⟩ := D.def_ 41 (d := d_product_has_in) rfl
  have g_product_has_in : mg "product_has_in" = some (.ref (He.fAd K ("product_has_in", none))) := He.glo_ok KX NS (D.fact 41 (f := .glo "product_has_in") rfl)
  obtain ⟨fd_is_product_of, F_is_product_of⟩ := D.def_ 42 (d := d_is_product_of) rfl
  have g_is_product_of : mg "is_product_of" = some (.ref (He.fAd K ("is_product_of", none))) := He.glo_ok KX NS (D.fact 42 (f := .glo "is_product_of") rfl)
  obtain ⟨fd_check_product, F_check_product⟩ := D.def_ 43 (d := d_check_product) rfl
  have g_check_product : mg "check_product" = some (.ref (He.fAd K ("check_product", none))) := He.glo_ok KX NS (D.fact 43 (f := .glo "check_product") rfl)
  obtain ⟨fd_reduced, F_reduced⟩ := D.def_ 44 (d := d_reduced) rfl
  have g_reduced : mg "reduced" = some (.ref (He.fAd K ("reduced", none))) := He.glo_ok KX NS (D.fact 44 (f := .glo "reduced") rfl)
  obtain ⟨fd_product_has, F_product_has⟩ := D.def_ 45 (d := d_product_has) rfl
  have g_product_has : mg "product_has" = some (.ref (He.fAd K ("product_has", none))) := He.glo_ok KX NS (D.fact 45 (f := .glo "product_has") rfl)
  obtain ⟨fd__law_well, F__law_well⟩ := D.def_ 46 (d := d__law_well) rfl
  have g__law_well : mg "_law_well" = some (.ref (He.fAd K ("_law_well", none))) := He.glo_ok KX NS (D.fact 46 (f := .glo "_law_well") rfl)
  obtain ⟨fd__law_take, F__law_take⟩ := D.def_ 47 (d := d__law_take) rfl
  have g__law_take : mg "_law_take" = some (.ref (He.fAd K ("_law_take", none))) := He.glo_ok KX NS (D.fact 47 (f := .glo "_law_take") rfl)
  obtain ⟨fd__law_same, F__law_same⟩ := D.def_ 48 (d := d__law_same) rfl
  have g__law_same : mg "_law_same" = some (.ref (He.fAd K ("_law_same", none))) := He.glo_ok KX NS (D.fact 48 (f := .glo "_law_same") rfl)
  obtain ⟨fd__law_word, F__law_word⟩ := D.def_ 49 (d := d__law_word) rfl
  have g__law_word : mg "_law_word" = some (.ref (He.fAd K ("_law_word", none))) := He.glo_ok KX NS (D.fact 49 (f := .glo "_law_word") rfl)
  obtain ⟨fd__law_strewn, F__law_strewn⟩ := D.def_ 50 (d := d__law_strewn) rfl
  have g__law_strewn : mg "_law_strewn" = some (.ref (He.fAd K ("_law_strewn", none))) := He.glo_ok KX NS (D.fact 50 (f := .glo "_law_strewn") rfl)
  obtain ⟨fd__law_paper_right, F__law_paper_right⟩ := D.def_ 51 (d := d__law_paper_right) rfl
  have g__law_paper_right : mg "_law_paper_right" = some (.ref (He.fAd K ("_law_paper_right", none))) := He.glo_ok KX NS (D.fact 51 (f := .glo "_law_paper_right") rfl)
  obtain ⟨fd_law, F_law⟩ := D.def_ 52 (d := d_law) rfl
  have g_law : mg "law" = some (.ref (He.fAd K ("law", none))) := He.glo_ok KX NS (D.fact 52 (f := .glo "law") rfl)
  refine ⟨fd_law, fun s v => FunD.bindsA (ps := ["script"]) F_law (fun _ _ _ _ _ _ us hl => match us, hl with | [_], _ => rfl) s [v] rfl, fun base TB => ?_⟩
  have C_is_integer : Cal ⟨P, w, K, (tf.map (He.cT K)).map (·.2)⟩ mg base 1 "is_integer" ["value"] K98.sp_is_integer := cal_of (k := 0) F_is_integer sc_is_integer g_is_integer (fun _ _ _ _ _ _ us hl => match us, hl with | [_], _ => rfl) (fun c hc A outer s H E ex hr => w_is_integer (Pt := 0) hr G ) K98.pl_is_integer
  have C_is_natural : Cal ⟨P, w, K, (tf.map (He.cT K)).map (·.2)⟩ mg base 2 "is_natural" ["value"] K98.sp_is_natural := cal_of (k := 1) F_is_natural sc_is_natural g_is_natural (fun _ _ _ _ _ _ us hl => match us, hl with | [_], _ => rfl) (fun c hc A outer s H E ex hr => w_is_natural (Pt := 0) hr G (C_is_integer.mono (by decide))) K98.pl_is_natural
  have C_is_below : Cal ⟨P, w, K, (tf.map (He.cT K)).map (·.2)⟩ mg base 3 "is_below" ["value", "many"] K98.sp_is_below := cal_of (k := 2) F_is_below sc_is_below g_is_below (fun _ _ _ _ _ _ us hl => match us, hl with | [_, _], _ => rfl) (fun c hc A outer s H E ex hr => w_is_below (Pt := 0) hr G (C_is_natural.mono (by decide))) K98.pl_is_below
  have C_is_between : Cal ⟨P, w, K, (tf.map (He.cT K)).map (·.2)⟩ mg base 2 "is_between" ["value", "low", "high"] K98.sp_is_between := cal_of (k := 1) F_is_between sc_is_between g_is_between (fun _ _ _ _ _ _ us hl => match us, hl with | [_, _, _], _ => rfl) (fun c hc A outer s H E ex hr => w_is_between (Pt := 0) hr G (C_is_integer.mono (by decide))) K98.pl_is_between
  have C_is_k : Cal ⟨P, w, K, (tf.map (He.cT K)).map (·.2)⟩ mg base 3 "is_k" ["value"] K98.sp_is_k := cal_of (k := 2) F_is_k sc_is_k g_is_k (fun _ _ _ _ _ _ us hl => match us, hl with | [_], _ => rfl) (fun c hc A outer s H E ex hr => w_is_k (Pt := 0) hr G (C_is_between.mono (by decide))) K98.pl_is_k
  have mem_is_letters : ∀ c, He.codeOf K ("is_letters", none) = c → (c, (He.cT K ("is_letters", none)).2) ∈ tf.map (He.cT K) := fun c hc => hc ▸ List.mem_map.mpr ⟨("is_letters", none), by decide, rfl⟩
  have mem2_is_letters : ∀ c, He.codeOf K ("is_letters", none) = c → (He.cT K ("is_letters", none)).2 ∈ (tf.map (He.cT K)).map (·.2) := fun c hc => List.mem_map.mpr ⟨_, mem_is_letters c hc, rfl⟩
  have C_is_letters : Cal ⟨P, w, K, (tf.map (He.cT K)).map (·.2)⟩ mg base 5 "is_letters" ["k", "value"] K98.sp_is_letters := cal_of (k := 4) F_is_letters sc_is_letters g_is_letters (fun _ _ _ _ _ _ us hl => match us, hl with | [_, _], _ => rfl) (fun c hc A outer s H E ex hr => w_is_letters hr G (C_is_below.mono (by decide)) (TB _ (mem_is_letters c hc)) (mem2_is_letters c hc)) K98.pl_is_letters
  have C_check_k : Cal ⟨P, w, K, (tf.map (He.cT K)).map (·.2)⟩ mg base 4 "check_k" ["k"] K98.sp_check_k := cal_of (k := 3) F_check_k sc_check_k g_check_k (fun _ _ _ _ _ _ us hl => match us, hl with | [_], _ => rfl) (fun c hc A outer s H E ex hr => w_check_k (Pt := 0) hr G (C_is_k.mono (by decide))) K98.pl_check_k
  have mem_is_ascending : ∀ c, He.codeOf K ("is_ascending", none) = c → (c, (He.cT K ("is_ascending", none)).2) ∈ tf.map (He.cT K) := fun c hc => hc ▸ List.mem_map.mpr ⟨("is_ascending", none), by decide, rfl⟩
  have mem2_is_ascending : ∀ c, He.codeOf K ("is_ascending", none) = c → (He.cT K ("is_ascending", none)).2 ∈ (tf.map (He.cT K)).map (·.2) := fun c hc => List.mem_map.mpr ⟨_, mem_is_ascending c hc, rfl⟩
  have C_is_ascending : Cal ⟨P, w, K, (tf.map (He.cT K)).map (·.2)⟩ mg base 2 "is_ascending" ["some"] K98.sp_is_ascending := cal_of (k := 1) F_is_ascending sc_is_ascending g_is_ascending (fun _ _ _ _ _ _ us hl => match us, hl with | [_], _ => rfl) (fun c hc A outer s H E ex hr => w_is_ascending hr G (TB _ (mem_is_ascending c hc)) (mem2_is_ascending c hc)) K98.pl_is_ascending
  have C_is_word_of : Cal ⟨P, w, K, (tf.map (He.cT K)).map (·.2)⟩ mg base 6 "is_word_of" ["k", "told"] K98.sp_is_word_of := cal_of (k := 5) F_is_word_of sc_is_word_of g_is_word_of (fun _ _ _ _ _ _ us hl => match us, hl with | [_, _], _ => rfl) (fun c hc A outer s H E ex hr => w_is_word_of (Pt := 0) hr G (C_is_letters.mono (by decide))) K98.pl_is_word_of
  have C_check_word : Cal ⟨P, w, K, (tf.map (He.cT K)).map (·.2)⟩ mg base 7 "check_word" ["k", "word"] K98.sp_check_word := cal_of (k := 6) F_check_word sc_check_word g_check_word (fun _ _ _ _ _ _ us hl => match us, hl with | [_, _], _ => rfl) (fun c hc A outer s H E ex hr => w_check_word (Pt := 0) hr G (C_is_word_of.mono (by decide))) K98.pl_check_word
  have C_found_in : Cal ⟨P, w, K, (tf.map (He.cT K)).map (·.2)⟩ mg base 1 "found_in" ["one", "other"] K98.sp_found_in := cal_of (k := 0) F_found_in sc_found_in g_found_in (fun _ _ _ _ _ _ us hl => match us, hl with | [_, _], _ => rfl) (fun c hc A outer s H E ex hr => w_found_in (Pt := 0) hr G ) K98.pl_found_in
  have C_strewn_in : Cal ⟨P, w, K, (tf.map (He.cT K)).map (·.2)⟩ mg base 2 "strewn_in" ["one", "other"] K98.sp_strewn_in := cal_of (k := 1) F_strewn_in sc_strewn_in g_strewn_in (fun _ _ _ _ _ _ us hl => match us, hl with | [_, _], _ => rfl) (fun c hc A outer s H E ex hr => w_strewn_in (Pt := 0) hr G (C_found_in.mono (by decide))) K98.pl_strewn_in
  have C_is_deed : Cal ⟨P, w, K, (tf.map (He.cT K)).map (·.2)⟩ mg base 3 "is_deed" ["k", "roads", "told"] K98.sp_is_deed := cal_of (k := 2) F_is_deed sc_is_deed g_is_deed (fun _ _ _ _ _ _ us hl => match us, hl with | [_, _, _], _ => rfl) (fun c hc A outer s H E ex hr => w_is_deed (Pt := 0) hr G (C_is_between.mono (by decide))) K98.pl_is_deed
  have C_is_step : Cal ⟨P, w, K, (tf.map (He.cT K)).map (·.2)⟩ mg base 4 "is_step" ["k", "rooms", "roads", "told"] K98.sp_is_step := cal_of (k := 3) F_is_step sc_is_step g_is_step (fun _ _ _ _ _ _ us hl => match us, hl with | [_, _, _, _], _ => rfl) (fun c hc A outer s H E ex hr => w_is_step (Pt := 0) hr G (C_is_between.mono (by decide)) (C_is_deed.mono (by decide))) K98.pl_is_step
  have mem_is_system : ∀ c, He.codeOf K ("is_system", none) = c → (c, (He.cT K ("is_system", none)).2) ∈ tf.map (He.cT K) := fun c hc => hc ▸ List.mem_map.mpr ⟨("is_system", none), by decide, rfl⟩
  have mem2_is_system : ∀ c, He.codeOf K ("is_system", none) = c → (He.cT K ("is_system", none)).2 ∈ (tf.map (He.cT K)).map (·.2) := fun c hc => List.mem_map.mpr ⟨_, mem_is_system c hc, rfl⟩
  have C_is_system : Cal ⟨P, w, K, (tf.map (He.cT K)).map (·.2)⟩ mg base 6 "is_system" ["value"] K98.sp_is_system := cal_of (k := 5) F_is_system sc_is_system g_is_system (fun _ _ _ _ _ _ us hl => match us, hl with | [_], _ => rfl) (fun c hc A outer s H E ex hr => w_is_system hr G (C_is_k.mono (by decide)) (C_is_integer.mono (by decide)) (C_is_between.mono (by decide)) (C_is_step.mono (by decide)) (C_is_ascending.mono (by decide)) (TB _ (mem_is_system c hc)) (mem2_is_system c hc)) K98.pl_is_system
  have C_check_system : Cal ⟨P, w, K, (tf.map (He.cT K)).map (·.2)⟩ mg base 7 "check_system" ["system"] K98.sp_check_system := cal_of (k := 6) F_check_system sc_check_system g_check_system (fun _ _ _ _ _ _ us hl => match us, hl with | [_], _ => rfl) (fun c hc A outer s H E ex hr => w_check_system (Pt := 0) hr G (C_is_system.mono (by decide))) K98.pl_check_system
  have mem_are_words : ∀ c, He.codeOf K ("are_words", none) = c → (c, (He.cT K ("are_words", none)).2) ∈ tf.map (He.cT K) := fun c hc => hc ▸ List.mem_map.mpr ⟨("are_words", none), by decide, rfl⟩
  have mem2_are_words : ∀ c, He.codeOf K ("are_words", none) = c → (He.cT K ("are_words", none)).2 ∈ (tf.map (He.cT K)).map (·.2) := fun c hc => List.mem_map.mpr ⟨_, mem_are_words c hc, rfl⟩
  have C_are_words : Cal ⟨P, w, K, (tf.map (He.cT K)).map (·.2)⟩ mg base 7 "are_words" ["system", "told"] K98.sp_are_words := cal_of (k := 6) F_are_words sc_are_words g_are_words (fun _ _ _ _ _ _ us hl => match us, hl with | [_, _], _ => rfl) (fun c hc A outer s H E ex hr => w_are_words hr G (C_is_letters.mono (by decide)) (TB _ (mem_are_words c hc)) (mem2_are_words c hc)) K98.pl_are_words
  have C_is_stand_in : Cal ⟨P, w, K, (tf.map (He.cT K)).map (·.2)⟩ mg base 8 "is_stand_in" ["system", "value"] K98.sp_is_stand_in := cal_of (k := 7) F_is_stand_in sc_is_stand_in g_is_stand_in (fun _ _ _ _ _ _ us hl => match us, hl with | [_, _], _ => rfl) (fun c hc A outer s H E ex hr => w_is_stand_in (Pt := 0) hr G (C_is_between.mono (by decide)) (C_are_words.mono (by decide))) K98.pl_is_stand_in
  have C_check_stand : Cal ⟨P, w, K, (tf.map (He.cT K)).map (·.2)⟩ mg base 9 "check_stand" ["system", "stand"] K98.sp_check_stand := cal_of (k := 8) F_check_stand sc_check_stand g_check_stand (fun _ _ _ _ _ _ us hl => match us, hl with | [_, _], _ => rfl) (fun c hc A outer s H E ex hr => w_check_stand (Pt := 0) hr G (C_is_stand_in.mono (by decide))) K98.pl_check_stand
  have mem_are_strewn : ∀ c, He.codeOf K ("are_strewn", none) = c → (c, (He.cT K ("are_strewn", none)).2) ∈ tf.map (He.cT K) := fun c hc => hc ▸ List.mem_map.mpr ⟨("are_strewn", none), by decide, rfl⟩
  have mem2_are_strewn : ∀ c, He.codeOf K ("are_strewn", none) = c → (He.cT K ("are_strewn", none)).2 ∈ (tf.map (He.cT K)).map (·.2) := fun c hc => List.mem_map.mpr ⟨_, mem_are_strewn c hc, rfl⟩
  have C_are_strewn : Cal ⟨P, w, K, (tf.map (He.cT K)).map (·.2)⟩ mg base 4 "are_strewn" ["words", "others"] K98.sp_are_strewn := cal_of (k := 3) F_are_strewn sc_are_strewn g_are_strewn (fun _ _ _ _ _ _ us hl => match us, hl with | [_, _], _ => rfl) (fun c hc A outer s H E ex hr => w_are_strewn hr G (C_strewn_in.mono (by decide)) (TB _ (mem_are_strewn c hc)) (mem2_are_strewn c hc)) K98.pl_are_strewn
  have C_with_word : Cal ⟨P, w, K, (tf.map (He.cT K)).map (·.2)⟩ mg base 1 "with_word" ["words", "road", "word"] K98.sp_with_word := cal_of (k := 0) F_with_word sc_with_word g_with_word (fun _ _ _ _ _ _ us hl => match us, hl with | [_, _, _], _ => rfl) (fun c hc A outer s H E ex hr => w_with_word (Pt := 0) hr G ) K98.pl_with_word
  have C_words_ahead : Cal ⟨P, w, K, (tf.map (He.cT K)).map (·.2)⟩ mg base 2 "words_ahead" ["deed", "words"] K98.sp_words_ahead := cal_of (k := 1) F_words_ahead sc_words_ahead g_words_ahead (fun _ _ _ _ _ _ us hl => match us, hl with | [_, _], _ => rfl) (fun c hc A outer s H E ex hr => w_words_ahead (Pt := 0) hr G (C_with_word.mono (by decide))) K98.pl_words_ahead
  have C_leads_in : Cal ⟨P, w, K, (tf.map (He.cT K)).map (·.2)⟩ mg base 5 "leads_in" ["system", "one", "other"] K98.sp_leads_in := cal_of (k := 4) F_leads_in sc_leads_in g_leads_in (fun _ _ _ _ _ _ us hl => match us, hl with | [_, _, _], _ => rfl) (fun c hc A outer s H E ex hr => w_leads_in (Pt := 0) hr G (C_are_strewn.mono (by decide)) (C_words_ahead.mono (by decide))) K98.pl_leads_in
  have mem_is_at : ∀ c, He.codeOf K ("is_at", none) = c → (c, (He.cT K ("is_at", none)).2) ∈ tf.map (He.cT K) := fun c hc => hc ▸ List.mem_map.mpr ⟨("is_at", none), by decide, rfl⟩
  have mem2_is_at : ∀ c, He.codeOf K ("is_at", none) = c → (He.cT K ("is_at", none)).2 ∈ (tf.map (He.cT K)).map (·.2) := fun c hc => List.mem_map.mpr ⟨_, mem_is_at c hc, rfl⟩
  have C_is_at : Cal ⟨P, w, K, (tf.map (He.cT K)).map (·.2)⟩ mg base 6 "is_at" ["bars", "stand"] K98.sp_is_at := cal_of (k := 5) F_is_at sc_is_at g_is_at (fun _ _ _ _ _ _ us hl => match us, hl with | [_, _], _ => rfl) (fun c hc A outer s H E ex hr => w_is_at hr G (C_are_strewn.mono (by decide)) (TB _ (mem_is_at c hc)) (mem2_is_at c hc)) K98.pl_is_at
  have C_ways_to : Cal ⟨P, w, K, (tf.map (He.cT K)).map (·.2)⟩ mg base 7 "ways_to" ["system", "goal"] K98.sp_ways_to := cal_of (k := 6) F_ways_to sc_ways_to g_ways_to (fun _ _ _ _ _ _ us hl => match us, hl with | [_, _], _ => rfl) (fun c hc A outer s H E ex hr => w_ways_to (Pt := 0) hr G (C_words_ahead.mono (by decide)) (C_is_at.mono (by decide)) (C_are_strewn.mono (by decide))) K98.pl_ways_to
  have C_run_from : Cal ⟨P, w, K, (tf.map (He.cT K)).map (·.2)⟩ mg base 5 "run_from" ["start", "bars", "ways"] K98.sp_run_from := cal_of (k := 4) F_run_from sc_run_from g_run_from (fun _ _ _ _ _ _ us hl => match us, hl with | [_, _, _], _ => rfl) (fun c hc A outer s H E ex hr => w_run_from (Pt := 0) hr G (C_are_strewn.mono (by decide))) K98.pl_run_from
  have mem_is_run : ∀ c, He.codeOf K ("is_run", none) = c → (c, (He.cT K ("is_run", none)).2) ∈ tf.map (He.cT K) := fun c hc => hc ▸ List.mem_map.mpr ⟨("is_run", none), by decide, rfl⟩
  have mem2_is_run : ∀ c, He.codeOf K ("is_run", none) = c → (He.cT K ("is_run", none)).2 ∈ (tf.map (He.cT K)).map (·.2) := fun c hc => List.mem_map.mpr ⟨_, mem_is_run c hc, rfl⟩
  have C_is_run : Cal ⟨P, w, K, (tf.map (He.cT K)).map (·.2)⟩ mg base 10 "is_run" ["system", "start", "goal", "stands"] K98.sp_is_run := cal_of (k := 9) F_is_run sc_is_run g_is_run (fun _ _ _ _ _ _ us hl => match us, hl with | [_, _, _, _], _ => rfl) (fun c hc A outer s H E ex hr => w_is_run hr G (C_is_stand_in.mono (by decide)) (C_are_strewn.mono (by decide)) (C_leads_in.mono (by decide)) (TB _ (mem_is_run c hc)) (mem2_is_run c hc)) K98.pl_is_run
  have mem_are_least : ∀ c, He.codeOf K ("are_least", none) = c → (c, (He.cT K ("are_least", none)).2) ∈ tf.map (He.cT K) := fun c hc => hc ▸ List.mem_map.mpr ⟨("are_least", none), by decide, rfl⟩
  have mem2_are_least : ∀ c, He.codeOf K ("are_least", none) = c → (He.cT K ("are_least", none)).2 ∈ (tf.map (He.cT K)).map (·.2) := fun c hc => List.mem_map.mpr ⟨_, mem_are_least c hc, rfl⟩
  have C_are_least : Cal ⟨P, w, K, (tf.map (He.cT K)).map (·.2)⟩ mg base 6 "are_least" ["words"] K98.sp_are_least := cal_of (k := 5) F_are_least sc_are_least g_are_least (fun _ _ _ _ _ _ us hl => match us, hl with | [_], _ => rfl) (fun c hc A outer s H E ex hr => w_are_least hr G (C_are_strewn.mono (by decide)) (TB _ (mem_are_least c hc)) (mem2_are_least c hc)) K98.pl_are_least
  have mem_are_bars : ∀ c, He.codeOf K ("are_bars", none) = c → (c, (He.cT K ("are_bars", none)).2) ∈ tf.map (He.cT K) := fun c hc => hc ▸ List.mem_map.mpr ⟨("are_bars", none), by decide, rfl⟩
  have mem2_are_bars : ∀ c, He.codeOf K ("are_bars", none) = c → (He.cT K ("are_bars", none)).2 ∈ (tf.map (He.cT K)).map (·.2) := fun c hc => List.mem_map.mpr ⟨_, mem_are_bars c hc, rfl⟩
  have C_are_bars : Cal ⟨P, w, K, (tf.map (He.cT K)).map (·.2)⟩ mg base 9 "are_bars" ["system", "bars"] K98.sp_are_bars := cal_of (k := 8) F_are_bars sc_are_bars g_are_bars (fun _ _ _ _ _ _ us hl => match us, hl with | [_, _], _ => rfl) (fun c hc A outer s H E ex hr => w_are_bars hr G (C_are_words.mono (by decide)) (C_is_ascending.mono (by decide)) (C_are_least.mono (by decide)) (TB _ (mem_are_bars c hc)) (mem2_are_bars c hc)) K98.pl_are_bars
  have mem_is_closed : ∀ c, He.codeOf K ("is_closed", none) = c → (c, (He.cT K ("is_closed", none)).2) ∈ tf.map (He.cT K) := fun c hc => hc ▸ List.mem_map.mpr ⟨("is_closed", none), by decide, rfl⟩
  have mem2_is_closed : ∀ c, He.codeOf K ("is_closed", none) = c → (He.cT K ("is_closed", none)).2 ∈ (tf.map (He.cT K)).map (·.2) := fun c hc => List.mem_map.mpr ⟨_, mem_is_closed c hc, rfl⟩
  have C_is_closed : Cal ⟨P, w, K, (tf.map (He.cT K)).map (·.2)⟩ mg base 8 "is_closed" ["system", "bars"] K98.sp_is_closed := cal_of (k := 7) F_is_closed sc_is_closed g_is_closed (fun _ _ _ _ _ _ us hl => match us, hl with | [_, _], _ => rfl) (fun c hc A outer s H E ex hr => w_is_closed hr G (C_is_at.mono (by decide)) (C_words_ahead.mono (by decide)) (TB _ (mem_is_closed c hc)) (mem2_is_closed c hc)) K98.pl_is_closed
  have C_leads_on : Cal ⟨P, w, K, (tf.map (He.cT K)).map (·.2)⟩ mg base 10 "leads_on" ["system", "one", "other"] K98.sp_leads_on := cal_of (k := 9) F_leads_on sc_leads_on g_leads_on (fun _ _ _ _ _ _ us hl => match us, hl with | [_, _, _], _ => rfl) (fun c hc A outer s H E ex hr => w_leads_on (Pt := 0) hr G (C_check_system.mono (by decide)) (C_check_stand.mono (by decide)) (C_leads_in.mono (by decide))) K98.pl_leads_on
  have C_ahead : Cal ⟨P, w, K, (tf.map (He.cT K)).map (·.2)⟩ mg base 10 "ahead" ["system", "goal"] K98.sp_ahead := cal_of (k := 9) F_ahead sc_ahead g_ahead (fun _ _ _ _ _ _ us hl => match us, hl with | [_, _], _ => rfl) (fun c hc A outer s H E ex hr => w_ahead (Pt := 0) hr G (C_check_system.mono (by decide)) (C_check_stand.mono (by decide)) (C_ways_to.mono (by decide))) K98.pl_ahead
  have K_ahead_goal_system : CalK ⟨P, w, K, (tf.map (He.cT K)).map (·.2)⟩ mg base 10 "ahead" ["system", "goal"] K98.sp_ahead ["goal", "system"] [1, 0] := calK_of (k := 9) F_ahead sc_ahead g_ahead (fun _ _ _ _ _ _ us hl => match us, hl with | [_, _], _ => rfl) rfl (fun c hc A outer s H E ex hr => w_ahead (Pt := 0) hr G (C_check_system.mono (by decide)) (C_check_stand.mono (by decide)) (C_ways_to.mono (by decide))) K98.pl_ahead
  have C_comes : Cal ⟨P, w, K, (tf.map (He.cT K)).map (·.2)⟩ mg base 10 "comes" ["system", "start", "goal"] K98.sp_comes := cal_of (k := 9) F_comes sc_comes g_comes (fun _ _ _ _ _ _ us hl => match us, hl with | [_, _, _], _ => rfl) (fun c hc A outer s H E ex hr => w_comes (Pt := 0) hr G (C_check_system.mono (by decide)) (C_check_stand.mono (by decide)) (C_ways_to.mono (by decide)) (C_is_at.mono (by decide)) (C_run_from.mono (by decide))) K98.pl_comes
  have C_judge_comes : Cal ⟨P, w, K, (tf.map (He.cT K)).map (·.2)⟩ mg base 11 "judge_comes" ["system", "start", "goal", "value"] K98.sp_judge_comes := cal_of (k := 10) F_judge_comes sc_judge_comes g_judge_comes (fun _ _ _ _ _ _ us hl => match us, hl with | [_, _, _, _], _ => rfl) (fun c hc A outer s H E ex hr => w_judge_comes (Pt := 0) hr G (C_check_system.mono (by decide)) (C_check_stand.mono (by decide)) (C_is_run.mono (by decide)) (C_are_bars.mono (by decide)) (C_is_at.mono (by decide)) (C_is_closed.mono (by decide))) K98.pl_judge_comes
  have mem_is_atom : ∀ c, He.codeOf K ("is_atom", none) = c → (c, (He.cT K ("is_atom", none)).2) ∈ tf.map (He.cT K) := fun c hc => hc ▸ List.mem_map.mpr ⟨("is_atom", none), by decide, rfl⟩
  have mem2_is_atom : ∀ c, He.codeOf K ("is_atom", none) = c → (He.cT K ("is_atom", none)).2 ∈ (tf.map (He.cT K)).map (·.2) := fun c hc => List.mem_map.mpr ⟨_, mem_is_atom c hc, rfl⟩
  have C_is_atom : Cal ⟨P, w, K, (tf.map (He.cT K)).map (·.2)⟩ mg base 5 "is_atom" ["k", "told"] K98.sp_is_atom := cal_of (k := 4) F_is_atom sc_is_atom g_is_atom (fun _ _ _ _ _ _ us hl => match us, hl with | [_, _], _ => rfl) (fun c hc A outer s H E ex hr => w_is_atom hr G (C_is_below.mono (by decide)) (C_is_ascending.mono (by decide)) (TB _ (mem_is_atom c hc)) (mem2_is_atom c hc)) K98.pl_is_atom
  have mem_are_atoms : ∀ c, He.codeOf K ("are_atoms", none) = c → (c, (He.cT K ("are_atoms", none)).2) ∈ tf.map (He.cT K) := fun c hc => hc ▸ List.mem_map.mpr ⟨("are_atoms", none), by decide, rfl⟩
  have mem2_are_atoms : ∀ c, He.codeOf K ("are_atoms", none) = c → (He.cT K ("are_atoms", none)).2 ∈ (tf.map (He.cT K)).map (·.2) := fun c hc => List.mem_map.mpr ⟨_, mem_are_atoms c hc, rfl⟩
  have C_are_atoms : Cal ⟨P, w, K, (tf.map (He.cT K)).map (·.2)⟩ mg base 7 "are_atoms" ["k", "told"] K98.sp_are_atoms := cal_of (k := 6) F_are_atoms sc_are_atoms g_are_atoms (fun _ _ _ _ _ _ us hl => match us, hl with | [_, _], _ => rfl) (fun c hc A outer s H E ex hr => w_are_atoms hr G (C_is_atom.mono (by decide)) (TB _ (mem_are_atoms c hc)) (mem2_are_atoms c hc)) K98.pl_are_atoms
  have mem_fits : ∀ c, He.codeOf K ("fits", none) = c → (c, (He.cT K ("fits", none)).2) ∈ tf.map (He.cT K) := fun c hc => hc ▸ List.mem_map.mpr ⟨("fits", none), by decide, rfl⟩
  have mem2_fits : ∀ c, He.codeOf K ("fits", none) = c → (He.cT K ("fits", none)).2 ∈ (tf.map (He.cT K)).map (·.2) := fun c hc => List.mem_map.mpr ⟨_, mem_fits c hc, rfl⟩
  have C_fits : Cal ⟨P, w, K, (tf.map (He.cT K)).map (·.2)⟩ mg base 2 "fits" ["atom", "other"] K98.sp_fits := cal_of (k := 1) F_fits sc_fits g_fits (fun _ _ _ _ _ _ us hl => match us, hl with | [_, _], _ => rfl) (fun c hc A outer s H E ex hr => w_fits hr G (TB _ (mem_fits c hc)) (mem2_fits c hc)) K98.pl_fits
  have C_takes_up : Cal ⟨P, w, K, (tf.map (He.cT K)).map (·.2)⟩ mg base 3 "takes_up" ["star", "atom"] K98.sp_takes_up := cal_of (k := 2) F_takes_up sc_takes_up g_takes_up (fun _ _ _ _ _ _ us hl => match us, hl with | [_, _], _ => rfl) (fun c hc A outer s H E ex hr => w_takes_up (Pt := 0) hr G (C_fits.mono (by decide))) K98.pl_takes_up
  have C_put_behind : Cal ⟨P, w, K, (tf.map (He.cT K)).map (·.2)⟩ mg base 4 "put_behind" ["atoms", "atom"] K98.sp_put_behind := cal_of (k := 3) F_put_behind sc_put_behind g_put_behind (fun _ _ _ _ _ _ us hl => match us, hl with | [_, _], _ => rfl) (fun c hc A outer s H E ex hr => w_put_behind (Pt := 0) hr G (C_takes_up.mono (by decide))) K98.pl_put_behind
  have C_reduced_in : Cal ⟨P, w, K, (tf.map (He.cT K)).map (·.2)⟩ mg base 5 "reduced_in" ["atoms"] K98.sp_reduced_in := cal_of (k := 4) F_reduced_in sc_reduced_in g_reduced_in (fun _ _ _ _ _ _ us hl => match us, hl with | [_], _ => rfl) (fun c hc A outer s H E ex hr => w_reduced_in (Pt := 0) hr G (C_put_behind.mono (by decide))) K98.pl_reduced_in
  have C_rest_behind : Cal ⟨P, w, K, (tf.map (He.cT K)).map (·.2)⟩ mg base 3 "rest_behind" ["product", "at", "letter"] K98.sp_rest_behind := cal_of (k := 2) F_rest_behind sc_rest_behind g_rest_behind (fun _ _ _ _ _ _ us hl => match us, hl with | [_, _, _], _ => rfl) (fun c hc A outer s H E ex hr => w_rest_behind (Pt := 0) hr G (C_fits.mono (by decide))) K98.pl_rest_behind
  have C_product_has_in : Cal ⟨P, w, K, (tf.map (He.cT K)).map (·.2)⟩ mg base 4 "product_has_in" ["product", "word"] K98.sp_product_has_in := cal_of (k := 3) F_product_has_in sc_product_has_in g_product_has_in (fun _ _ _ _ _ _ us hl => match us, hl with | [_, _], _ => rfl) (fun c hc A outer s H E ex hr => w_product_has_in (Pt := 0) hr G (C_rest_behind.mono (by decide))) K98.pl_product_has_in
  have C_is_product_of : Cal ⟨P, w, K, (tf.map (He.cT K)).map (·.2)⟩ mg base 8 "is_product_of" ["k", "told"] K98.sp_is_product_of := cal_of (k := 7) F_is_product_of sc_is_product_of g_is_product_of (fun _ _ _ _ _ _ us hl => match us, hl with | [_, _], _ => rfl) (fun c hc A outer s H E ex hr => w_is_product_of (Pt := 0) hr G (C_are_atoms.mono (by decide)) (C_reduced_in.mono (by decide))) K98.pl_is_product_of
  have C_check_product : Cal ⟨P, w, K, (tf.map (He.cT K)).map (·.2)⟩ mg base 9 "check_product" ["k", "product"] K98.sp_check_product := cal_of (k := 8) F_check_product sc_check_product g_check_product (fun _ _ _ _ _ _ us hl => match us, hl with | [_, _], _ => rfl) (fun c hc A outer s H E ex hr => w_check_product (Pt := 0) hr G (C_is_product_of.mono (by decide))) K98.pl_check_product
  have C_reduced : Cal ⟨P, w, K, (tf.map (He.cT K)).map (·.2)⟩ mg base 8 "reduced" ["k", "atoms"] K98.sp_reduced := cal_of (k := 7) F_reduced sc_reduced g_reduced (fun _ _ _ _ _ _ us hl => match us, hl with | [_, _], _ => rfl) (fun c hc A outer s H E ex hr => w_reduced (Pt := 0) hr G (C_check_k.mono (by decide)) (C_are_atoms.mono (by decide)) (C_reduced_in.mono (by decide))) K98.pl_reduced
  have C_product_has : Cal ⟨P, w, K, (tf.map (He.cT K)).map (·.2)⟩ mg base 10 "product_has" ["product", "word"] K98.sp_product_has := cal_of (k := 9) F_product_has sc_product_has g_product_has (fun _ _ _ _ _ _ us hl => match us, hl with | [_, _], _ => rfl) (fun c hc A outer s H E ex hr => w_product_has (Pt := 0) hr G (C_check_product.mono (by decide)) (C_check_word.mono (by decide)) (C_product_has_in.mono (by decide))) K98.pl_product_has
  have C__law_well : Cal ⟨P, w, K, (tf.map (He.cT K)).map (·.2)⟩ mg base 1 "_law_well" ["script", "at"] K98.sp__law_well := cal_of (k := 0) F__law_well sc__law_well g__law_well (fun _ _ _ _ _ _ us hl => match us, hl with | [_, _], _ => rfl) (fun c hc A outer s H E ex hr => w__law_well (Pt := 0) hr G ) K98.pl__law_well
  have C__law_take : Cal ⟨P, w, K, (tf.map (He.cT K)).map (·.2)⟩ mg base 1 "_law_take" ["well", "many"] K98.sp__law_take := cal_of (k := 0) F__law_take sc__law_take g__law_take (fun _ _ _ _ _ _ us hl => match us, hl with | [_, _], _ => rfl) (fun c hc A outer s H E ex hr => w__law_take (Pt := 0) hr G ) K98.pl__law_take
  have C_s0 : Cal ⟨P, w, K, (tf.map (He.cT K)).map (·.2)⟩ mg base 0 "_law_same" ["told", "due"] (fun _ _ _ _ => False) := cal_no F__law_same g__law_same (fun _ _ _ _ _ _ us hl => match us, hl with | [_, _], _ => rfl)
  have C_s1 : Cal ⟨P, w, K, (tf.map (He.cT K)).map (·.2)⟩ mg base 1 "_law_same" ["told", "due"] (sp_same 0) := cal_of (k := 0) F__law_same sc__law_same g__law_same (fun _ _ _ _ _ _ us hl => match us, hl with | [_, _], _ => rfl) (fun c hc A outer s H E ex hr => w__law_same (Pt := 0) hr G C_s0) pl_same_0
  have C_s2 : Cal ⟨P, w, K, (tf.map (He.cT K)).map (·.2)⟩ mg base 2 "_law_same" ["told", "due"] (sp_same 1) := cal_of (k := 1) F__law_same sc__law_same g__law_same (fun _ _ _ _ _ _ us hl => match us, hl with | [_, _], _ => rfl) (fun c hc A outer s H E ex hr => w__law_same (Pt := 0) hr G C_s1) (pl_same 0)
  have C_s3 : Cal ⟨P, w, K, (tf.map (He.cT K)).map (·.2)⟩ mg base 3 "_law_same" ["told", "due"] (sp_same 2) := cal_of (k := 2) F__law_same sc__law_same g__law_same (fun _ _ _ _ _ _ us hl => match us, hl with | [_, _], _ => rfl) (fun c hc A outer s H E ex hr => w__law_same (Pt := 0) hr G C_s2) (pl_same 1)
  have C_s4 : Cal ⟨P, w, K, (tf.map (He.cT K)).map (·.2)⟩ mg base 4 "_law_same" ["told", "due"] (sp_same 3) := cal_of (k := 3) F__law_same sc__law_same g__law_same (fun _ _ _ _ _ _ us hl => match us, hl with | [_, _], _ => rfl) (fun c hc A outer s H E ex hr => w__law_same (Pt := 0) hr G C_s3) (pl_same 2)
  have C_s5 : Cal ⟨P, w, K, (tf.map (He.cT K)).map (·.2)⟩ mg base 5 "_law_same" ["told", "due"] (sp_same 4) := cal_of (k := 4) F__law_same sc__law_same g__law_same (fun _ _ _ _ _ _ us hl => match us, hl with | [_, _], _ => rfl) (fun c hc A outer s H E ex hr => w__law_same (Pt := 0) hr G C_s4) (pl_same 3)
  have C_s6 : Cal ⟨P, w, K, (tf.map (He.cT K)).map (·.2)⟩ mg base 6 "_law_same" ["told", "due"] (sp_same 5) := cal_of (k := 5) F__law_same sc__law_same g__law_same (fun _ _ _ _ _ _ us hl => match us, hl with | [_, _], _ => rfl) (fun c hc A outer s H E ex hr => w__law_same (Pt := 0) hr G C_s5) (pl_same 4)
  have C__law_same : Cal ⟨P, w, K, (tf.map (He.cT K)).map (·.2)⟩ mg base 7 "_law_same" ["told", "due"] (sp_same 6) := cal_of (k := 6) F__law_same sc__law_same g__law_same (fun _ _ _ _ _ _ us hl => match us, hl with | [_, _], _ => rfl) (fun c hc A outer s H E ex hr => w__law_same (Pt := 0) hr G C_s6) (pl_same 5)
  have C__law_word : Cal ⟨P, w, K, (tf.map (He.cT K)).map (·.2)⟩ mg base 2 "_law_word" ["well", "k", "most"] K98.sp__law_word := cal_of (k := 1) F__law_word sc__law_word g__law_word (fun _ _ _ _ _ _ us hl => match us, hl with | [_, _, _], _ => rfl) (fun c hc A outer s H E ex hr => w__law_word (Pt := 0) hr G (C__law_take.mono (by decide))) K98.pl__law_word
  have C__law_strewn : Cal ⟨P, w, K, (tf.map (He.cT K)).map (·.2)⟩ mg base 1 "_law_strewn" ["one", "other"] K98.sp__law_strewn := cal_of (k := 0) F__law_strewn sc__law_strewn g__law_strewn (fun _ _ _ _ _ _ us hl => match us, hl with | [_, _], _ => rfl) (fun c hc A outer s H E ex hr => w__law_strewn (Pt := 0) hr G ) K98.pl__law_strewn
  have C__law_paper_right : Cal ⟨P, w, K, (tf.map (He.cT K)).map (·.2)⟩ mg base 12 "_law_paper_right" ["system", "start", "goal", "due", "told"] K98.sp__law_paper_right := cal_of (k := 11) F__law_paper_right sc__law_paper_right g__law_paper_right (fun _ _ _ _ _ _ us hl => match us, hl with | [_, _, _, _, _], _ => rfl) (fun c hc A outer s H E ex hr => w__law_paper_right (Pt := 0) hr G (C__law_same.mono (by decide)) (C_judge_comes.mono (by decide)) (C_ahead.mono (by decide)) (C__law_strewn.mono (by decide)) (C_leads_on.mono (by decide))) K98.pl__law_paper_right
  exact fnL (k := 12) F_law rfl sc_law (fun c hc A outer s H E ex hr => w_law (Pt := 0) hr G (C__law_well.mono (by decide)) (C__law_take.mono (by decide)) (C__law_word.mono (by decide)) (C_product_has.mono (by decide)) (C_reduced.mono (by decide)) (C_is_system.mono (by decide)) (C__law_paper_right.mono (by decide)) (C_comes.mono (by decide)) (C__law_same.mono (by decide)) (C_ahead.mono (by decide)) (C__law_strewn.mono (by decide)) (K_ahead_goal_system.mono (by decide))) (fun ds M q ex _ h => K98.pl_law ds M q ex h)
end F98
open PySem PySem.W PySem.Calls PyProof.Rows
theorem PySem.Challenge.cw_wholelost_k98_whole_roads_that_only_send_holds : PySem.Challenge.rw_wholelost_k98_whole_roads_that_only_send.Holds := by
  w_on; o_law
  refine HandSHeadRun.head_any (r := OpenLaw.row PySem.Challenge.rw_wholelost_k98_whole_roads_that_only_send) (q := view (OpenLaw.row PySem.Challenge.rw_wholelost_k98_whole_roads_that_only_send).prog [67]) (H := F98.hk) (ob := F98.ob) (M := 9000) (loose := [("StrewnError" : PySem.Str), ("InvalidNumber" : PySem.Str), ("InvalidWord" : PySem.Str), ("InvalidProduct" : PySem.Str), ("InvalidSystem" : PySem.Str), ("InvalidStand" : PySem.Str), ("is_integer" : PySem.Str), ("is_natural" : PySem.Str), ("is_below" : PySem.Str), ("is_between" : PySem.Str), ("is_k" : PySem.Str), ("is_letters" : PySem.Str), ("check_k" : PySem.Str), ("is_ascending" : PySem.Str), ("is_word_of" : PySem.Str), ("check_word" : PySem.Str), ("found_in" : PySem.Str), ("strewn_in" : PySem.Str), ("is_deed" : PySem.Str), ("is_step" : PySem.Str), ("is_system" : PySem.Str), ("check_system" : PySem.Str), ("are_words" : PySem.Str), ("is_stand_in" : PySem.Str), ("check_stand" : PySem.Str), ("are_strewn" : PySem.Str), ("with_word" : PySem.Str), ("words_ahead" : PySem.Str), ("leads_in" : PySem.Str), ("is_at" : PySem.Str), ("ways_to" : PySem.Str), ("run_from" : PySem.Str), ("is_run" : PySem.Str), ("are_least" : PySem.Str), ("are_bars" : PySem.Str), ("is_closed" : PySem.Str), ("leads_on" : PySem.Str), ("ahead" : PySem.Str), ("comes" : PySem.Str), ("judge_comes" : PySem.Str), ("is_atom" : PySem.Str), ("are_atoms" : PySem.Str), ("fits" : PySem.Str), ("takes_up" : PySem.Str), ("put_behind" : PySem.Str), ("reduced_in" : PySem.Str), ("rest_behind" : PySem.Str), ("product_has_in" : PySem.Str), ("is_product_of" : PySem.Str), ("check_product" : PySem.Str), ("reduced" : PySem.Str), ("product_has" : PySem.Str), ("_law_well" : PySem.Str), ("_law_take" : PySem.Str), ("_law_same" : PySem.Str), ("_law_word" : PySem.Str), ("_law_strewn" : PySem.Str), ("_law_paper_right" : PySem.Str), ("MOST_LETTERS" : PySem.Str), ("MOST_ROADS" : PySem.Str), ("SEND" : PySem.Str)]) (d := HandSHeadRun.topDef (OpenLaw.row PySem.Challenge.rw_wholelost_k98_whole_roads_that_only_send).prog 67) (kwd := []) F98.ob_eq
    (by kernel_rfl) (fun s => by kernel_rfl) F98.run (by kernel_rfl) (by kernel_rfl) (by kernel_rfl) (by rfl) (by first | assumption | decide +kernel) (by decide +kernel) ⟨rfl, rfl, rfl, rfl, rfl, by decide +kernel⟩ ?hw ?hc
  case hw => w_witness2
  case hc =>
    refine Lk.law_walk (l := PySem.Challenge.rw_wholelost_k98_whole_roads_that_only_send) (n := 63) (k := 13) (x := "script") rfl (by decide) (by kernel_rfl) ⟨⟨rfl, by decide, by decide⟩, rfl⟩ ?F
    intro w mg fa h Y G hmg0
    obtain ⟨K, KX, c⟩ := Y
    have hmg : mg ("law" : PySem.Str) = some (.ref fa) := by
      have e : (HandSHeadRun.topDef (OpenLaw.row PySem.Challenge.rw_wholelost_k98_whole_roads_that_only_send).prog 67).name = ("law" : PySem.Str) := by kernel_rfl
      rw [← e]
      exact hmg0
    obtain ⟨fd, hb, hF⟩ := F98.facts (P := (PySem.Challenge.rw_wholelost_k98_whole_roads_that_only_send).prog) (w := w) KX G c.t.d
    have e := hmg.symm.trans (He.glo_ok KX G (c.t.d.fact 52 (f := .glo "law") rfl))
    cases e
    refine ⟨K, fd, F98.tf.map (He.cT K), K98.sp_law, KX, fun p hp => ?_, fun p hp => ?_, fun p hp => ?_, hb, fun ns _ _ => ⟨ns, rfl, fun _ => rfl⟩, fun base _ _ TB => hF base TB⟩
    · obtain ⟨d, hd, rfl⟩ := List.mem_map.mp hp
      exact c.empty d hd
    · obtain ⟨d, hd, rfl⟩ := List.mem_map.mp hp
      exact c.out d hd
    · obtain ⟨d, hd, rfl⟩ := List.mem_map.mp hp
      exact codeHd_of_K KX (c.hd d hd)
